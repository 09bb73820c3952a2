import PyProof.Rows.All
import Wide.All
import OpenK.AllK
import Wide.FinOn
import HandS.ForMost
import HandS.ForExc
import HandS.Wide
import HandS.IsInst
import HandS.Flow
import HandS.Defaults
import HandS.SortInts
import HandS.Strs
import HandS.TupSets
import HandS.MakeKw
import HandS.MakeKwOnly
import HandS.Conv
import HandS.Steps
import KE.GoesMore
import HandS.Text
import HandS.Iter
import KE.KStateDown
import Lean
import HandS.Head0
import HandS.Head1
import HandS.Head2
import HandS.HeadEnd
import HandS.HeadHook1
import HandS.HeadHook2
import PySem.Challenge.RW_fogfleet_k15_readings_of_a_word
set_option Elab.async false
set_option linter.all false
set_option maxRecDepth 100000
set_option maxHeartbeats 4000000
/-! the plain meaning of the program's steps: none is what this text says nothing about -/
namespace Mi
def pyLet {α β : Type} (e : α) (f : α → β) : β := f e
def ixN (n : Nat) (i : Int) : Option Nat := if 0 ≤ i then (if i < n then some i.toNat else none) else if -(n : Int) ≤ i then some (i + n).toNat else none
def at_ {α : Type} (xs : List α) (i : Int) : Option α := (ixN xs.length i).bind fun j => xs[j]?
def setAt {α : Type} (xs : List α) (i : Int) (x : α) : Option (List α) := (ixN xs.length i).bind fun j => some (xs.set j x)
def sIx (n d : Nat) : Option Int → Nat
  | none => d
  | some v => if v < 0 then (v + (n : Int)).toNat else min v.toNat n
def cut {α : Type} (xs : List α) (lo hi : Option Int) : List α := (xs.drop (sIx xs.length 0 lo)).take (sIx xs.length xs.length hi - sIx xs.length 0 lo)
def big : Nat := 1000000
def app {α : Type} (xs : List α) (x : α) : Option (List α) := if xs.length < big then some (xs ++ [x]) else none
def cat {α : Type} (xs ys : List α) : Option (List α) := if xs.length + ys.length ≤ big then some (xs ++ ys) else none
def mul (i j : Int) : Option Int := if (-(2 ^ 64) < i ∧ i < 2 ^ 64) ∨ (-(2 ^ 64) < j ∧ j < 2 ^ 64) then some (i * j) else none
def mod (i j : Int) : Option Int := if 0 < j then some (i % j) else none
def fdiv (i j : Int) : Option Int := if 0 < j ∧ j < 2 ^ 200 then some (i / j) else none
def guardO (c : Bool) : Option Unit := if c = true then some () else none
def smallI (i : Int) : Bool := decide (-(2 ^ 60) ≤ i) && decide (i < 2 ^ 60)
/-- range(lo, hi) -/
def rng (lo hi : Int) : List Int := (List.range (hi - lo).toNat).map fun (k : Nat) => lo + (k : Int)
/-- range(lo, hi, -1) -/
def rngDown (lo hi : Int) : List Int := (List.range (lo - hi).toNat).map fun (k : Nat) => lo - (k : Int)
/-- a for that runs through -/
def forN {α σ : Type} (f : σ → α → Option σ) : σ → List α → Option σ
  | s, [] => some s
  | s, x :: xs => (f s x).bind fun s' => forN f s' xs
/-- a for that may return (inl) -/
def forR {α σ ρ : Type} (f : σ → α → Option (ρ ⊕ σ)) : σ → List α → Option (ρ ⊕ σ)
  | s, [] => some (.inr s)
  | s, x :: xs => (f s x).bind fun
    | .inl r => some (.inl r)
    | .inr s' => forR f s' xs
/-- a for that may break (inl) -/
def forB {α σ : Type} (f : σ → α → Option (σ ⊕ σ)) : σ → List α → Option σ
  | s, [] => some s
  | s, x :: xs => (f s x).bind fun
    | .inl s' => some s'
    | .inr s' => forB f s' xs
/-- a comprehension: none of the inner option is an item left out; the state is what the items' making changes -/
def comp {α β σ : Type} (f : σ → α → Option (Option β × σ)) : σ → List α → Option (List β × σ)
  | s, [] => some ([], s)
  | s, x :: xs => (f s x).bind fun p => (comp f p.2 xs).bind fun q => some ((match p.1 with | some y => y :: q.1 | none => q.1), q.2)
/-- a comprehension that changes nothing -/
def comp0 {α β : Type} (f : α → Option (Option β)) : List α → Option (List β)
  | [] => some []
  | x :: xs => (f x).bind fun p => (comp0 f xs).bind fun q => some (match p with | some y => y :: q | none => q)
def whileN {σ : Type} (c : σ → Option Bool) (b : σ → Option σ) : Nat → σ → Option σ
  | 0, _ => none
  | n + 1, s => (c s).bind fun t => if t = true then (b s).bind fun s' => whileN c b n s' else some s
def whileR {σ ρ : Type} (c : σ → Option Bool) (b : σ → Option (ρ ⊕ σ)) : Nat → σ → Option (ρ ⊕ σ)
  | 0, _ => none
  | n + 1, s => (c s).bind fun t => if t = true then (b s).bind fun
      | .inl r => some (.inl r)
      | .inr s' => whileR c b n s'
    else some (.inr s)
theorem bnd {α β : Type} {m : Option α} {f : α → Option β} {r : β} (h : m.bind f = some r) : ∃ x, m = some x ∧ f x = some r := by
  cases m with
  | none => cases h
  | some x => exact ⟨x, rfl, h⟩
theorem letE {α β : Type} {e : α} {f : α → Option β} {r : Option β} (h : pyLet e f = r) : ∃ x, e = x ∧ f x = r := ⟨e, rfl, h⟩
theorem ifT {α : Type} {b : Bool} {x y : Option α} {r : Option α} (hb : b = true) (h : (if b = true then x else y) = r) : x = r := by
  rw [if_pos hb] at h; exact h
theorem ifF {α : Type} {b : Bool} {x y : Option α} {r : Option α} (hb : b = false) (h : (if b = true then x else y) = r) : y = r := by
  rw [hb, if_neg Bool.false_ne_true] at h; exact h
end Mi
namespace Mi
def rngO (lo hi : Int) : Option (List Int) := if (-(2 ^ 60) ≤ lo ∧ lo < 2 ^ 60) ∧ (-(2 ^ 60) ≤ hi ∧ hi < 2 ^ 60) then some (rng lo hi) else none
def rngDownO (lo hi : Int) : Option (List Int) := if (-(2 ^ 60) ≤ lo ∧ lo < 2 ^ 60) ∧ (-(2 ^ 60) ≤ hi ∧ hi < 2 ^ 60) then some (rngDown lo hi) else none
theorem forN_go {α σ : Type} {f : σ → α → Option σ} {s e : σ} {xs : List α} {i : Nat} {x : α} (h : forN f s (xs.drop i) = some e) (hx : xs[i]? = some x) : ∃ s', f s x = some s' ∧ forN f s' (xs.drop (i + 1)) = some e := by
  have hi : i < xs.length := (List.getElem?_eq_some_iff.mp hx).1
  have e1 : xs.drop i = x :: xs.drop (i + 1) := by
    rw [List.drop_eq_getElem_cons hi]
    congr 1
    exact (List.getElem?_eq_some_iff.mp hx).2
  rw [e1] at h
  exact bnd h
theorem forN_end {α σ : Type} {f : σ → α → Option σ} {s e : σ} {xs : List α} (h : forN f s (xs.drop xs.length) = some e) : s = e := by
  rw [List.drop_length] at h
  exact Option.some.inj h
theorem forR_go {α σ ρ : Type} {f : σ → α → Option (ρ ⊕ σ)} {s : σ} {e : ρ ⊕ σ} {xs : List α} {i : Nat} {x : α} (h : forR f s (xs.drop i) = some e) (hx : xs[i]? = some x) :
    ∃ o, f s x = some o ∧ ((∃ r, o = .inl r ∧ e = .inl r) ∨ ∃ s', o = .inr s' ∧ forR f s' (xs.drop (i + 1)) = some e) := by
  have hi : i < xs.length := (List.getElem?_eq_some_iff.mp hx).1
  have e1 : xs.drop i = x :: xs.drop (i + 1) := by
    rw [List.drop_eq_getElem_cons hi]
    congr 1
    exact (List.getElem?_eq_some_iff.mp hx).2
  rw [e1] at h
  obtain ⟨o, h1, h2⟩ := bnd h
  refine ⟨o, h1, ?_⟩
  cases o with
  | inl r => exact .inl ⟨r, rfl, (Option.some.inj h2).symm⟩
  | inr s' => exact .inr ⟨s', rfl, h2⟩
theorem forR_end {α σ ρ : Type} {f : σ → α → Option (ρ ⊕ σ)} {s : σ} {e : ρ ⊕ σ} {xs : List α} (h : forR f s (xs.drop xs.length) = some e) : e = .inr s := by
  rw [List.drop_length] at h
  exact (Option.some.inj h).symm
theorem forB_go {α σ : Type} {f : σ → α → Option (σ ⊕ σ)} {s e : σ} {xs : List α} {i : Nat} {x : α} (h : forB f s (xs.drop i) = some e) (hx : xs[i]? = some x) :
    ∃ o, f s x = some o ∧ ((o = .inl e) ∨ ∃ s', o = .inr s' ∧ forB f s' (xs.drop (i + 1)) = some e) := by
  have hi : i < xs.length := (List.getElem?_eq_some_iff.mp hx).1
  have e1 : xs.drop i = x :: xs.drop (i + 1) := by
    rw [List.drop_eq_getElem_cons hi]
    congr 1
    exact (List.getElem?_eq_some_iff.mp hx).2
  rw [e1] at h
  obtain ⟨o, h1, h2⟩ := bnd h
  refine ⟨o, h1, ?_⟩
  cases o with
  | inl r => exact .inl (by rw [Option.some.inj h2])
  | inr s' => exact .inr ⟨s', rfl, h2⟩
theorem forB_end {α σ : Type} {f : σ → α → Option (σ ⊕ σ)} {s e : σ} {xs : List α} (h : forB f s (xs.drop xs.length) = some e) : s = e := by
  rw [List.drop_length] at h
  exact Option.some.inj h
end Mi
namespace Mi
def orR {ρ σ : Type} (o : ρ ⊕ σ) (k : σ → Option ρ) : Option ρ := match o with
  | .inl r => some r
  | .inr s => k s
def orL {ρ σ τ : Type} (o : ρ ⊕ σ) (k : σ → Option (ρ ⊕ τ)) : Option (ρ ⊕ τ) := match o with
  | .inl r => some (.inl r)
  | .inr s => k s
theorem orR_inl {ρ σ : Type} {r q : ρ} {k : σ → Option ρ} (h : orR (.inl r) k = some q) : some r = some q := h
theorem orR_inr {ρ σ : Type} {s : σ} {q : ρ} {k : σ → Option ρ} (h : orR (.inr s) k = some q) : k s = some q := h
theorem orL_inl {ρ σ τ : Type} {r : ρ} {q : ρ ⊕ τ} {k : σ → Option (ρ ⊕ τ)} (h : orL (.inl r) k = some q) : some (.inl r) = some q := h
theorem orL_inr {ρ σ τ : Type} {s : σ} {q : ρ ⊕ τ} {k : σ → Option (ρ ⊕ τ)} (h : orL (.inr s) k = some q) : k s = some q := h
theorem or_inl {ρ σ : Type} {r : ρ} {e : ρ ⊕ σ} {P : σ → Prop} (h : (∃ r', (Sum.inl r : ρ ⊕ σ) = .inl r' ∧ e = .inl r') ∨ ∃ s', (Sum.inl r : ρ ⊕ σ) = .inr s' ∧ P s') : e = .inl r := by
  rcases h with ⟨r', h1, h2⟩ | ⟨s', h1, _⟩
  · cases h1; exact h2
  · cases h1
theorem or_inr {ρ σ : Type} {s : σ} {e : ρ ⊕ σ} {P : σ → Prop} (h : (∃ r', (Sum.inr s : ρ ⊕ σ) = .inl r' ∧ e = .inl r') ∨ ∃ s', (Sum.inr s : ρ ⊕ σ) = .inr s' ∧ P s') : P s := by
  rcases h with ⟨r', h1, h2⟩ | ⟨s', h1, h2⟩
  · cases h1
  · cases h1; exact h2
end Mi
namespace Mi
def shl (i j : Int) : Option Int := if 0 ≤ j ∧ j ≤ 1000 ∧ -(2 ^ 64) < i ∧ i < 2 ^ 64 then some (i * 2 ^ j.toNat) else none
def shr (i j : Int) : Option Int := if 0 ≤ j then some (i / 2 ^ j.toNat) else none
def sortI (xs : List Int) : List Int := xs.mergeSort fun a b => decide (a ≤ b)
def sadd (xs : List Int) (k : Int) : Option (List Int) := if xs.length < 4000 then some (if xs.contains k = true then xs else xs ++ [k]) else none
def popL {α : Type} (xs : List α) : Option (α × List α) := (xs[xs.length - 1]?).bind fun y => some (y, xs.dropLast)
def popAt {α : Type} (xs : List α) (i : Int) : Option (α × List α) := (ixN xs.length i).bind fun j => (xs[j]?).bind fun y => some (y, xs.eraseIdx j)
def lMin (xs : List Int) : Option Int := xs.head?.map fun x => xs.foldl min x
def lMax (xs : List Int) : Option Int := xs.head?.map fun x => xs.foldl max x
/-- enumerate -/
def enumF {α : Type} : Int → List α → List (Int × α)
  | _, [] => []
  | k, x :: xs => (k, x) :: enumF (k + 1) xs
end Mi
namespace Mi
/-! ### texts: lists of code points -/
def sLen (s : List Nat) : Option Int := if s.length ≤ big then some (s.length : Int) else none
def sAt (s : List Nat) (i : Int) : Option (List Nat) := if s.length ≤ big then (at_ s i).map fun c => [c] else none
def sCut (s : List Nat) (lo hi : Option Int) : Option (List Nat) := if s.length ≤ big then some (cut s lo hi) else none
def sCat (a b : List Nat) : Option (List Nat) := if a.length + b.length ≤ big then some (a ++ b) else none
def sIn (a s : List Nat) : Option Bool := match a with
  | [c] => some (s.contains c)
  | _ => none
def joinL (sep : List Nat) : List (List Nat) → List Nat
  | [] => []
  | [p] => p
  | p :: q :: r => p ++ (sep ++ joinL sep (q :: r))
def sJoin (sep : List Nat) (xs : List (List Nat)) : Option (List Nat) := if (xs.map (·.length)).sum + xs.length * sep.length ≤ big then some (joinL sep xs) else none
def signs (s : List Nat) : List (List Nat) := s.map fun c => [c]
def okS (s : List Nat) : Bool := s.all fun c => decide (c < 1114112)
def bI (b : Bool) : Int := if b = true then 1 else 0
end Mi

namespace Mi
def m_is_pattern_b1  (s6 : (List (List Nat))) (x14 : (List Nat)) : Option (List (List Nat)) :=
  (sIn x14 ([42, 46] : List Nat)).bind fun b21 =>
  if (!b21) = true then ((app s6 x14).bind fun x22 =>
  some x22) else (some s6)
def m_is_pattern (d0 : (List Nat)) : Option Bool :=
  (sLen d0).bind fun x1 =>
  (if (decide (x1 < (1 : Int))) = true then some true else (sLen d0).bind fun x3 => some (decide ((12 : Int) < x3))).bind fun b4 =>
  if b4 = true then
  (some false)
  else
  (forN (m_is_pattern_b1) ([] : (List (List Nat))) (Mi.signs d0)).bind fun s6 =>
  some (decide ((s6.length : Int) = (0 : Int)))
def m_Light_init (d1 : Int) (d2 : (List Nat)) (d3 : Int) : Option (Int × (List Nat) × Int) :=
  if ((decide (d1 < (0 : Int))) || (decide ((11 : Int) < d1))) = true then
  (none)
  else
  (m_is_pattern d2).bind fun q2 =>
  if (!q2) = true then
  (none)
  else
  if ((decide (d3 < (0 : Int))) || (decide ((3 : Int) < d3))) = true then
  (none)
  else
  some (d1, d2, d3)
def m_flashes_b1 (d0 : (Int × (List Nat) × Int)) (d1 : Int) (size6 : Int) (s9 : (List (List Nat))) (x17 : Int) : Option (List (List Nat)) :=
  (mod (d1 + x17) size6).bind fun x28 =>
  (sAt d0.2.1 x28).bind fun x29 =>
  (app s9 x29).bind fun x30 =>
  some x30
def m_flashes (d0 : (Int × (List Nat) × Int)) (d1 : Int) (d2 : Int) : Option (List Nat) :=
  (sLen d0.2.1).bind fun x5 =>
  pyLet (x5 : Int) fun size6 =>
  (rngO 0 d2).bind fun g7 =>
  (forN (m_flashes_b1 d0 d1 size6) ([] : (List (List Nat))) g7).bind fun s9 =>
  (sJoin ([] : List Nat) s9).bind fun x33 =>
  some x33
def m_readings_b2 (d1 : (List Nat)) (x14 : (Int × (Int × (List Nat) × Int))) (s27 : (List (Int × Int))) (x30 : Int) : Option (List (Int × Int)) :=
  ((sLen d1).bind fun x33 =>
  (m_flashes x14.2 x30 x33).bind fun q34 =>
  if (decide (q34 = d1)) = true then ((app s27 (x14.1, x30)).bind fun x42 =>
  some x42) else (some s27) : Option (List (Int × Int))).bind fun s32 =>
  some s32
def m_readings_b1 (d1 : (List Nat)) (s9 : (List (Int × Int))) (x14 : (Int × (Int × (List Nat) × Int))) : Option (List (Int × Int)) :=
  (sLen x14.2.2.1).bind fun x24 =>
  (rngO 0 x24).bind fun g25 =>
  (forN (m_readings_b2 d1 x14) s9 g25).bind fun s27 =>
  some s27
def m_readings (d0 : (List (Int × (List Nat) × Int))) (d1 : (List Nat)) : Option (List (Int × Int)) :=
  (forN (m_readings_b1 d1) ([] : (List (Int × Int))) (Mi.enumF 0 d0)).bind fun s9 =>
  some s9
def m_certain_light (d0 : (List (Int × (List Nat) × Int))) (d1 : (List Nat)) : Option (Option Int) :=
  (m_readings d0 d1).bind fun q1 =>
  (if (decide ((q1.length : Int) = (0 : Int))) = true then some true else (at_ q1 (0 : Int)).bind fun x11 => (at_ q1 (-(1 : Int))).bind fun x21 => some (!(decide (x11.1 = x21.1)))).bind fun b31 =>
  if b31 = true then
  (some (none : (Option Int)))
  else
  (at_ q1 (0 : Int)).bind fun x32 =>
  some (some x32.1)
def m_l_hand (d0 : (List Int)) (d1 : Int) : Option (List Int) :=
  pyLet ((0 : Int) : Int) fun cell1 =>
  (if (decide (d1 < (d0.length : Int))) = true then ((at_ d0 d1).bind fun x3 =>
  pyLet (x3 : Int) fun cell4 =>
  some cell4) else (some cell1) : Option Int).bind fun s2 =>
  (if (decide (s2 < (0 : Int))) = true then (pyLet (((1 : Int) - ((2 : Int) * s2)) : Int) fun cell6 =>
  some cell6) else (some s2) : Option Int).bind fun s5 =>
  pyLet ((0 : Int) : Int) fun rest7 =>
  (if (decide (((10 : Int) ^ 18) ≤ s5)) = true then (pyLet (s5 : Int) fun rest9 =>
  some rest9) else (some rest7) : Option Int).bind fun s8 =>
  some [s8, (((s5 + ((7919 : Int) * d1)) + (13 : Int)) % (2147483647 : Int)), (0 : Int)]
def m_l_pick (d0 : (List Int)) (d1 : Int) : Option (Int × (List Int)) :=
  if (decide (d1 < (1 : Int))) = true then
  (some ((0 : Int), d0))
  else
  (at_ d0 (0 : Int)).bind fun x1 =>
  if (decide ((0 : Int) < x1)) = true then
  ((at_ d0 (0 : Int)).bind fun x2 =>
  (mod x2 d1).bind fun x3 =>
  pyLet (x3 : Int) fun digit4 =>
  (at_ d0 (0 : Int)).bind fun x5 =>
  (fdiv x5 d1).bind fun x6 =>
  (setAt d0 (0 : Int) x6).bind fun x7 =>
  some (digit4, x7))
  else
  (at_ d0 (2 : Int)).bind fun x10 =>
  (setAt d0 (2 : Int) (x10 + (1 : Int))).bind fun x11 =>
  (at_ x11 (1 : Int)).bind fun x14 =>
  (at_ x11 (2 : Int)).bind fun x15 =>
  pyLet ((((x14 + ((7919 : Int) * x15)) + (13 : Int)) % (2147483647 : Int)) : Int) fun mixed16 =>
  (mul mixed16 (mixed16 + (48271 : Int))).bind fun x17 =>
  pyLet ((x17 % (2147483629 : Int)) : Int) fun mixed18 =>
  (mul mixed18 (mixed18 + (69621 : Int))).bind fun x19 =>
  (at_ x11 (2 : Int)).bind fun x20 =>
  pyLet (((x19 + ((31 : Int) * x20)) % (2147483647 : Int)) : Int) fun mixed21 =>
  (mod (mixed21 / (9 : Int)) d1).bind fun x22 =>
  some (x22, x11)
def m_l_int_0 (d0 : Int) : Option Bool :=
  some (true && (!false))
def m_l_int_1 (d0 : (Option Int)) : Option Bool :=
  some ((d0.isSome && true) && (!(d0.isSome && false)))
def m_l_pattern_b1 (q5 : (Int × (List Int))) (s10 : (List (List Nat))) (x19 : Int) : Option (List (List Nat)) :=
  (shr q5.1 x19).bind fun x26 =>
  (sAt ([42, 46] : List Nat) (x26 % (2 : Int))).bind fun x27 =>
  (app s10 x27).bind fun x28 =>
  some x28
def m_l_pattern (d0 : (List Int)) : Option ((List Nat) × (List Int)) :=
  (m_l_pick d0 (12 : Int)).bind fun q1 =>
  pyLet (((1 : Int) + q1.1) : Int) fun size4 =>
  (m_l_pick q1.2 (4096 : Int)).bind fun q5 =>
  (rngO 0 size4).bind fun g8 =>
  (forN (m_l_pattern_b1 q5) ([] : (List (List Nat))) g8).bind fun s10 =>
  (sJoin ([] : List Nat) s10).bind fun x31 =>
  some (x31, q5.2)
def m_l_shown_b1 (d0 : (List Nat)) (d1 : Int) (s3 : (List (List Nat))) (x11 : Int) : Option (List (List Nat)) :=
  (sLen d0).bind fun x18 =>
  (mod (d1 + x11) x18).bind fun x19 =>
  (sAt d0 x19).bind fun x20 =>
  (app s3 x20).bind fun x21 =>
  some x21
def m_l_shown (d0 : (List Nat)) (d1 : Int) (d2 : Int) : Option (List Nat) :=
  (rngO 0 d2).bind fun g1 =>
  (forN (m_l_shown_b1 d0 d1) ([] : (List (List Nat))) g1).bind fun s3 =>
  (sJoin ([] : List Nat) s3).bind fun x24 =>
  some x24
def m_l_changed (d0 : (List Nat)) (d1 : Int) : Option (List Nat) :=
  (sCut d0 none (some d1)).bind fun x1 =>
  (sAt d0 d1).bind fun x2 =>
  (sAt ([42, 46] : List Nat) (Mi.bI (decide (x2 = ([42] : List Nat))))).bind fun x3 =>
  (sCat x1 x3).bind fun x4 =>
  (sCut d0 (some (d1 + (1 : Int))) none).bind fun x5 =>
  (sCat x4 x5).bind fun x6 =>
  some x6
def m_l_kin (d0 : (List Int)) (d1 : (List Nat)) : Option ((List Nat) × (List Int)) :=
  (m_l_pick d0 (4 : Int)).bind fun q1 =>
  (sLen d1).bind fun x4 =>
  (m_l_pick q1.2 x4).bind fun q5 =>
  if (decide (q1.1 = (0 : Int))) = true then
  (some (d1, q5.2))
  else
  if (decide (q1.1 = (1 : Int))) = true then
  ((sCut d1 (some q5.1) none).bind fun x8 =>
  (sCut d1 none (some q5.1)).bind fun x9 =>
  (sCat x8 x9).bind fun x10 =>
  some (x10, q5.2))
  else
  (if (decide (q1.1 = (2 : Int))) = true then (sLen d1).bind fun x12 => some (decide (x12 < (7 : Int))) else some false).bind fun b13 =>
  if b13 = true then
  ((sCat d1 d1).bind fun x14 =>
  some (x14, q5.2))
  else
  (m_l_changed d1 q5.1).bind fun q15 =>
  some (q15, q5.2)
def m_l_patterns_b1  (s10 : ((List Int) × (List (List Nat)))) (x13 : Int) : Option ((List Int) × (List (List Nat))) :=
  (( if (decide ((0 : Int) < (s10.2.length : Int))) = true then (m_l_pick s10.1 (2 : Int)).bind fun q17 => some ((decide (q17.1 = (0 : Int))), q17.2) else some (false, s10.1) : Option (Bool × (List Int))).bind fun b16 =>
  if b16.1 = true then ((m_l_pick b16.2 (s10.2.length : Int)).bind fun q20 =>
  (at_ s10.2 q20.1).bind fun x23 =>
  (m_l_kin q20.2 x23).bind fun q26 =>
  (app s10.2 q26.1).bind fun x29 =>
  some (q26.2, x29)) else ((m_l_pattern b16.2).bind fun q32 =>
  (app s10.2 q32.1).bind fun x35 =>
  some (q32.2, x35)) : Option ((List Int) × (List (List Nat)))).bind fun s15 =>
  some (s15.1, s15.2)
def m_l_patterns (d0 : (List Int)) (d1 : Int) : Option ((List (List Nat)) × (List Int)) :=
  (rngO 0 d1).bind fun g8 =>
  (forN (m_l_patterns_b1) (d0, ([] : (List (List Nat)))) g8).bind fun s10 =>
  some (s10.2, s10.1)
def m_l_word_b1 (q22 : (Int × (List Int))) (s27 : (List (List Nat))) (x37 : Int) : Option (List (List Nat)) :=
  (shr q22.1 x37).bind fun x44 =>
  (sAt ([42, 46] : List Nat) (x44 % (2 : Int))).bind fun x45 =>
  (app s27 x45).bind fun x46 =>
  some x46
def m_l_word (d0 : (List Int)) (d1 : (List (List Nat))) : Option ((List Nat) × (List Int)) :=
  (m_l_pick d0 (4 : Int)).bind fun q9 =>
  (at_ [(61 : Int), (13 : Int), (13 : Int), (13 : Int)] q9.1).bind fun x12 =>
  (m_l_pick q9.2 x12).bind fun q15 =>
  (m_l_pick q15.2 (4 : Int)).bind fun q18 =>
  if ((decide (q18.1 = (3 : Int))) || (decide ((d1.length : Int) = (0 : Int)))) = true then
  ((m_l_pick q18.2 ((2 : Int) ^ 60)).bind fun q22 =>
  (rngO 0 q15.1).bind fun g25 =>
  (forN (m_l_word_b1 q22) ([] : (List (List Nat))) g25).bind fun s27 =>
  (sJoin ([] : List Nat) s27).bind fun x49 =>
  some (x49, q22.2))
  else
  (m_l_pick q18.2 (d1.length : Int)).bind fun q50 =>
  (at_ d1 q50.1).bind fun x53 =>
  (sLen x53).bind fun x56 =>
  (m_l_pick q50.2 x56).bind fun q57 =>
  (m_l_shown x53 q57.1 q15.1).bind fun q60 =>
  if ((decide (q18.1 = (2 : Int))) && (decide ((0 : Int) < q15.1))) = true then
  ((m_l_pick q57.2 q15.1).bind fun q64 =>
  (m_l_changed q60 q64.1).bind fun q67 =>
  some (q67, q64.2))
  else
  some (q60, q57.2)
def m_l_readings_b2 (d0 : (List (List Nat))) (d1 : (List Nat)) (x14 : Int) (s23 : (List (Int × Int))) (x26 : Int) : Option (List (Int × Int)) :=
  ((at_ d0 x14).bind fun x29 =>
  (sLen d1).bind fun x33 =>
  (m_l_shown x29 x26 x33).bind fun q34 =>
  if (decide (q34 = d1)) = true then ((app s23 (x14, x26)).bind fun x42 =>
  some x42) else (some s23) : Option (List (Int × Int))).bind fun s28 =>
  some s28
def m_l_readings_b1 (d0 : (List (List Nat))) (d1 : (List Nat)) (s10 : (List (Int × Int))) (x14 : Int) : Option (List (Int × Int)) :=
  (at_ d0 x14).bind fun x16 =>
  (sLen x16).bind fun x20 =>
  (rngO 0 x20).bind fun g21 =>
  (forN (m_l_readings_b2 d0 d1 x14) s10 g21).bind fun s23 =>
  some s23
def m_l_readings (d0 : (List (List Nat))) (d1 : (List Nat)) : Option (List (Int × Int)) :=
  (rngO 0 (d0.length : Int)).bind fun g8 =>
  (forN (m_l_readings_b1 d0 d1) ([] : (List (Int × Int))) g8).bind fun s10 =>
  some s10
def m_l_certain_b1 (d0 : (List (Int × Int))) (s3 : (List (Int × Int))) (x12 : (Int × Int)) : Option (List (Int × Int)) :=
  (at_ d0 (0 : Int)).bind fun x25 =>
  if (!(decide (x12.1 = x25.1))) = true then ((app s3 x12).bind fun x35 =>
  some x35) else (some s3)
def m_l_certain (d0 : (List (Int × Int))) : Option (Option Int) :=
  ( if (decide ((d0.length : Int) = (0 : Int))) = true then some true else (forN (m_l_certain_b1 d0) ([] : (List (Int × Int))) d0).bind fun s3 => some (decide ((0 : Int) < (s3.length : Int))) : Option Bool).bind fun b1 =>
  if b1 = true then
  (some (none : (Option Int)))
  else
  (at_ d0 (0 : Int)).bind fun x38 =>
  some (some x38.1)
def m_l_are_pairs_b1  (s3 : Unit) (x6 : (Int × Int)) : Option (Bool ⊕ Unit) :=
  ( if (!true) = true then some true else  if (!(decide ((2 : Int) = (2 : Int)))) = true then some true else (m_l_int_0 x6.1).bind fun q18 => if (!q18) = true then some true else (m_l_int_0 x6.2).bind fun q27 => some (!q27) : Option Bool).bind fun b11 =>
  if b11 = true then
  (some (.inl false))
  else
  some (.inr ())
def m_l_are_pairs (d0 : (List (Int × Int))) (d1 : (List (Int × Int))) : Option Bool :=
  if ((!true) || (!(decide ((d0.length : Int) = (d1.length : Int))))) = true then
  (some false)
  else
  (forR (m_l_are_pairs_b1) () d0).bind fun e2 => orR e2 fun s3 =>
  some (decide (d0 = d1))
def m_l_is_number (d0 : (Option Int)) (d1 : (Option Int)) : Option Bool :=
  if d1.isNone = true then
  (some d0.isNone)
  else
  ((m_l_int_1 d0).bind fun q2 => if q2 = true then (d0).bind fun x5 => (d1).bind fun x6 => some (decide (x5 = x6)) else some false : Option Bool).bind fun b1 =>
  some b1
def m_l_reads_b1  (s64 : (List (List Nat))) (x76 : (Int × (List Nat) × Int)) : Option (List (List Nat)) :=
  (app s64 x76.2.1).bind fun x87 =>
  some x87
def m_l_reads (d0 : (List (Int × (List Nat) × Int))) (d1 : (List (List Nat))) (d2 : (List Nat)) : Option Bool :=
  (m_l_readings d1 d2).bind fun q1 =>
  (m_readings d0 d2).bind fun q11 =>
  ((m_l_are_pairs q11 q1).bind fun q23 => if (!q23) = true then some true else (m_certain_light d0 d2).bind fun q26 => (m_l_certain q1).bind fun q31 => (m_l_is_number q26 q31).bind fun q36 => some (!q36) : Option Bool).bind fun b22 =>
  if b22 = true then
  (some false)
  else
  (app q11 ((99 : Int), (99 : Int))).bind fun x44 =>
  ((m_readings d0 d2).bind fun q48 => (m_l_are_pairs q48 q1).bind fun q60 => if q60 = true then (forN (m_l_reads_b1) ([] : (List (List Nat))) d0).bind fun s64 => (guardO ((s64.all fun z90 => (Mi.okS z90)) && (d1.all fun z91 => (Mi.okS z91)))).bind fun z92 => some (decide (s64 = d1)) else some false : Option Bool).bind fun b47 =>
  some b47
def m_law_b1  (s32 : ((List (Int × (List Nat) × Int)) × (List Int))) (x42 : (List Nat)) : Option ((List (Int × (List Nat) × Int)) × (List Int)) :=
  (m_l_pick s32.2 (12 : Int)).bind fun q49 =>
  (m_l_pick q49.2 (4 : Int)).bind fun q52 =>
  (m_Light_init q49.1 x42 q52.1).bind fun q66 =>
  (app s32.1 q66).bind fun x70 =>
  some (x70, q52.2)
def m_law_b2 (q12 : ((List (List Nat)) × (List Int))) (s32 : ((List (Int × (List Nat) × Int)) × (List Int))) (s122 : Unit) (x125 : (List Nat)) : Option (Bool ⊕ Unit) :=
  (m_l_reads s32.1 q12.1 x125).bind fun q130 =>
  if (!q130) = true then
  (some (.inl false))
  else
  some (.inr ())
def m_law (d0 : (List Int)) : Option Bool :=
  (m_l_hand d0 (0 : Int)).bind fun q1 =>
  (m_l_pick q1 (9 : Int)).bind fun q9 =>
  (m_l_patterns q9.2 q9.1).bind fun q12 =>
  (m_l_hand d0 (1 : Int)).bind fun q21 =>
  (forN (m_law_b1) (([] : (List (Int × (List Nat) × Int))), q21) q12.1).bind fun s32 =>
  (m_l_hand d0 (2 : Int)).bind fun q73 =>
  (m_l_word q73 q12.1).bind fun q84 =>
  (m_l_word q84.2 q12.1).bind fun q87 =>
  (at_ [q84.1, q87.1] (0 : Int)).bind fun x99 =>
  (at_ [q84.1, q87.1] (1 : Int)).bind fun x103 =>
  (at_ [q84.1, q87.1] (0 : Int)).bind fun x107 =>
  (forR (m_law_b2 q12 s32) () [x99, x103, x107]).bind fun e121 => orR e121 fun s122 =>
  (if (decide ((0 : Int) < (q12.1.length : Int))) = true then ((m_l_pick q87.2 (q12.1.length : Int)).bind fun q135 =>
  (guardO (decide (q12.1.length ≤ big))).bind fun z138 =>
  (popAt q12.1 q135.1).bind fun x139 =>
  (guardO (decide (s32.1.length ≤ big))).bind fun z144 =>
  (popAt s32.1 q135.1).bind fun x145 =>
  some (q135.2, x139.2, x145.2)) else (some (q87.2, q12.1, s32.1)) : Option ((List Int) × (List (List Nat)) × (List (Int × (List Nat) × Int)))).bind fun s133 =>
  ((at_ [q84.1, q87.1] (0 : Int)).bind fun x151 => (m_l_reads s133.2.2 s133.2.1 x151).bind fun q155 => if (!q155) = true then some true else (at_ [q84.1, q87.1] (1 : Int)).bind fun x158 => (m_l_reads s133.2.2 s133.2.1 x158).bind fun q162 => some (!q162) : Option Bool).bind fun b150 =>
  if b150 = true then
  (some false)
  else
  (if (decide ((0 : Int) < (s133.2.1.length : Int))) = true then ((m_l_pick s133.1 (s133.2.1.length : Int)).bind fun q167 =>
  (at_ s133.2.1 q167.1).bind fun x170 =>
  (app s133.2.1 x170).bind fun x174 =>
  (at_ s133.2.2 q167.1).bind fun x177 =>
  (app s133.2.2 x177).bind fun x181 =>
  some (x174, x181)) else (some (s133.2.1, s133.2.2)) : Option ((List (List Nat)) × (List (Int × (List Nat) × Int)))).bind fun s165 =>
  ((at_ [q84.1, q87.1] (1 : Int)).bind fun x185 => (m_l_reads s165.2 s165.1 x185).bind fun q189 => if q189 = true then (at_ [q84.1, q87.1] (0 : Int)).bind fun x192 => (m_l_reads s165.2 s165.1 x192).bind fun q196 => some q196 else some false : Option Bool).bind fun b184 =>
  some b184
end Mi

namespace Mi
/-! ### draws -/
def Hd (h : List Int) : Prop := ∃ a b c : Int, h = [a, b, c] ∧ 0 ≤ a
theorem mod_ok {i j : Int} (h : 0 < j) : mod i j = some (i % j) := if_pos h
theorem fdiv_ok {i j : Int} (h : 0 < j) (h2 : j < 2 ^ 200) : fdiv i j = some (i / j) := if_pos ⟨h, h2⟩
theorem mul_okL {i j : Int} (h : -(2 ^ 64) < i) (h2 : i < 2 ^ 64) : mul i j = some (i * j) := if_pos (.inl ⟨h, h2⟩)
theorem mul_okR {i j : Int} (h : -(2 ^ 64) < j) (h2 : j < 2 ^ 64) : mul i j = some (i * j) := if_pos (.inr ⟨h, h2⟩)
theorem app_ok {α : Type} {xs : List α} {x : α} (h : xs.length < big) : app xs x = some (xs ++ [x]) := if_pos h
theorem cat_ok {α : Type} {xs ys : List α} (h : xs.length + ys.length ≤ big) : cat xs ys = some (xs ++ ys) := if_pos h
theorem rngO_ok {lo hi : Int} (h1 : -(2 ^ 60) ≤ lo) (h2 : lo < 2 ^ 60) (h3 : -(2 ^ 60) ≤ hi) (h4 : hi < 2 ^ 60) : rngO lo hi = some (rng lo hi) := if_pos ⟨⟨h1, h2⟩, h3, h4⟩
theorem rngDownO_ok {lo hi : Int} (h1 : -(2 ^ 60) ≤ lo) (h2 : lo < 2 ^ 60) (h3 : -(2 ^ 60) ≤ hi) (h4 : hi < 2 ^ 60) : rngDownO lo hi = some (rngDown lo hi) := if_pos ⟨⟨h1, h2⟩, h3, h4⟩
theorem at0 {α : Type} (a : α) (l : List α) : at_ (a :: l) 0 = some a := by
  unfold at_ ixN
  rw [if_pos (by decide), if_pos (by rw [List.length_cons]; omega)]
  rfl
theorem at_nat {α : Type} {xs : List α} {j : Nat} {x : α} (h : xs[j]? = some x) : at_ xs (j : Int) = some x := by
  have hj : j < xs.length := (List.getElem?_eq_some_iff.mp h).1
  unfold at_ ixN
  rw [if_pos (by omega), if_pos (by omega), Int.toNat_natCast]
  exact h
theorem at_int {α : Type} {xs : List α} {i : Int} {x : α} (h0 : 0 ≤ i) (h : xs[i.toNat]? = some x) : at_ xs i = some x := by
  have e : i = (i.toNat : Int) := by omega
  rw [e]; exact at_nat h
theorem at_some {α : Type} {xs : List α} {i : Int} (h0 : 0 ≤ i) (h1 : i < xs.length) : ∃ x, at_ xs i = some x ∧ xs[i.toNat]? = some x := by
  have hj : i.toNat < xs.length := by omega
  exact ⟨xs[i.toNat], at_int h0 (List.getElem?_eq_getElem hj), List.getElem?_eq_getElem hj⟩
theorem hand_ok (s : List Int) (k : Int) (hk : 0 ≤ k) : ∃ h, m_l_hand s k = some h ∧ Hd h := by
  simp only [m_l_hand, pyLet]
  have hc : ∃ c, (if decide (k < (s.length : Int)) = true then (at_ s k).bind fun x3 => some x3 else some 0 : Option Int) = some c := by
    by_cases h : k < (s.length : Int)
    · rw [if_pos (decide_eq_true h)]
      obtain ⟨x, hx, _⟩ := at_some hk h
      rw [hx]
      exact ⟨x, rfl⟩
    · rw [if_neg (by simpa using h)]
      exact ⟨0, rfl⟩
  obtain ⟨c, hc⟩ := hc
  rw [hc]
  show ∃ h, (Option.bind (if decide (c < 0) = true then some (1 - 2 * c) else some c) _) = some h ∧ Hd h
  have hd : ∃ d, (if decide (c < 0) = true then some (1 - 2 * c) else some c) = some d ∧ 0 ≤ d := by
    by_cases h : c < 0
    · rw [if_pos (decide_eq_true h)]
      exact ⟨_, rfl, by omega⟩
    · rw [if_neg (by simpa using h)]
      exact ⟨c, rfl, by omega⟩
  obtain ⟨d, hd, h0⟩ := hd
  rw [hd]
  show ∃ h, (Option.bind (if decide (((10 : Int) ^ 18) ≤ d) = true then some d else some 0) _) = some h ∧ Hd h
  by_cases h : ((10 : Int) ^ 18) ≤ d
  · rw [if_pos (decide_eq_true h)]
    exact ⟨_, rfl, _, _, _, rfl, h0⟩
  · rw [if_neg (by simpa using h)]
    exact ⟨_, rfl, _, _, _, rfl, by omega⟩
theorem pick_ok {h : List Int} (hh : Hd h) {n : Int} (hn : 1 ≤ n) (hN : n < 2 ^ 200) : ∃ r h', m_l_pick h n = some (r, h') ∧ 0 ≤ r ∧ r < n ∧ Hd h' := by
  obtain ⟨a, b, c, rfl, ha⟩ := hh
  have i0 : ∀ x y z : Int, at_ [x, y, z] 0 = some x := fun _ _ _ => rfl
  have i1 : ∀ x y z : Int, at_ [x, y, z] 1 = some y := fun _ _ _ => rfl
  have i2 : ∀ x y z : Int, at_ [x, y, z] 2 = some z := fun _ _ _ => rfl
  have s0 : ∀ x y z u : Int, setAt [x, y, z] 0 u = some [u, y, z] := fun _ _ _ _ => rfl
  have s2 : ∀ x y z u : Int, setAt [x, y, z] 2 u = some [x, y, u] := fun _ _ _ _ => rfl
  unfold m_l_pick pyLet
  rw [if_neg (by simp; omega)]
  simp only [i0, i1, i2, s0, s2, Option.bind_some]
  by_cases h : 0 < a
  · rw [if_pos (decide_eq_true h), mod_ok (by omega)]
    simp only [Option.bind_some]
    rw [fdiv_ok (by omega) hN]
    simp only [Option.bind_some, s0]
    exact ⟨_, _, rfl, Int.emod_nonneg _ (by omega), Int.emod_lt_of_pos _ (by omega), _, _, _, rfl, Int.ediv_nonneg ha (by omega)⟩
  · rw [if_neg (by simpa using h)]
    have m1 := Int.emod_nonneg (b + 7919 * (c + 1) + 13) (show (2147483647 : Int) ≠ 0 by decide)
    have m2 := Int.emod_lt_of_pos (b + 7919 * (c + 1) + 13) (show (0 : Int) < 2147483647 by decide)
    rw [mul_okL (by omega) (by omega)]
    simp only [Option.bind_some]
    have m3 := Int.emod_nonneg ((b + 7919 * (c + 1) + 13) % 2147483647 * ((b + 7919 * (c + 1) + 13) % 2147483647 + 48271)) (show (2147483629 : Int) ≠ 0 by decide)
    have m4 := Int.emod_lt_of_pos ((b + 7919 * (c + 1) + 13) % 2147483647 * ((b + 7919 * (c + 1) + 13) % 2147483647 + 48271)) (show (0 : Int) < 2147483629 by decide)
    rw [mul_okL (by omega) (by omega)]
    simp only [Option.bind_some]
    rw [mod_ok (by omega)]
    exact ⟨_, _, rfl, Int.emod_nonneg _ (by omega), Int.emod_lt_of_pos _ (by omega), _, _, _, rfl, ha⟩

/-! ### ranges and loops -/
theorem rng_nil {lo hi : Int} (h : hi ≤ lo) : rng lo hi = [] := by
  unfold rng
  have e : (hi - lo).toNat = 0 := by omega
  rw [e]; rfl
theorem rng_cons {lo hi : Int} (h : lo < hi) : rng lo hi = lo :: rng (lo + 1) hi := by
  unfold rng
  have e : (hi - lo).toNat = (hi - (lo + 1)).toNat + 1 := by omega
  rw [e, List.range_succ_eq_map, List.map_cons, List.map_map]
  congr 1
  · omega
  · apply List.map_congr_left
    intro k _
    show lo + ((k + 1 : Nat) : Int) = lo + 1 + (k : Int)
    omega
theorem rngDown_nil {lo hi : Int} (h : lo ≤ hi) : rngDown lo hi = [] := by
  unfold rngDown
  have e : (lo - hi).toNat = 0 := by omega
  rw [e]; rfl
theorem rngDown_cons {lo hi : Int} (h : hi < lo) : rngDown lo hi = lo :: rngDown (lo - 1) hi := by
  unfold rngDown
  have e : (lo - hi).toNat = (lo - 1 - hi).toNat + 1 := by omega
  rw [e, List.range_succ_eq_map, List.map_cons, List.map_map]
  congr 1
  · omega
  · apply List.map_congr_left
    intro k _
    show lo - ((k + 1 : Nat) : Int) = lo - 1 - (k : Int)
    omega
theorem rng_length (lo hi : Int) : (rng lo hi).length = (hi - lo).toNat := by unfold rng; rw [List.length_map, List.length_range]
theorem mem_rng {lo hi x : Int} : x ∈ rng lo hi ↔ lo ≤ x ∧ x < hi := by
  unfold rng
  rw [List.mem_map]
  constructor
  · rintro ⟨k, hk, rfl⟩
    rw [List.mem_range] at hk
    omega
  · intro h
    exact ⟨(x - lo).toNat, List.mem_range.mpr (by omega), by omega⟩
theorem at_app {α : Type} (pre : List α) (x : α) (post : List α) : at_ (pre ++ x :: post) (pre.length : Int) = some x := at_nat (by
  rw [List.getElem?_append_right (Nat.le_refl _), Nat.sub_self]; rfl)
/-- a loop that keeps P runs through -/
theorem forN_inv {α σ : Type} {f : σ → α → Option σ} (P : σ → Prop) : ∀ {xs : List α} {s : σ}, P s → (∀ s x, x ∈ xs → P s → ∃ s', f s x = some s' ∧ P s') → ∃ e, forN f s xs = some e ∧ P e
  | [], s, h0, _ => ⟨s, rfl, h0⟩
  | x :: xs, s, h0, h => by
    obtain ⟨s', e, h1⟩ := h s x (List.mem_cons_self ..) h0
    obtain ⟨e2, h2, h3⟩ := forN_inv P (xs := xs) h1 fun s y hy => h s y (List.mem_cons_of_mem _ hy)
    exact ⟨e2, by show (f s x).bind _ = _; rw [e]; exact h2, h3⟩
theorem forN_nil {α σ : Type} (f : σ → α → Option σ) (s : σ) : forN f s [] = some s := rfl
theorem forN_cons {α σ : Type} (f : σ → α → Option σ) (s : σ) (x : α) (xs : List α) : forN f s (x :: xs) = (f s x).bind fun s' => forN f s' xs := rfl
theorem forR_nil {α σ ρ : Type} (f : σ → α → Option (ρ ⊕ σ)) (s : σ) : forR f s [] = some (.inr s) := rfl
theorem forR_step {α σ ρ : Type} {f : σ → α → Option (ρ ⊕ σ)} {s s' : σ} {x : α} {xs : List α} (h : f s x = some (.inr s')) : forR f s (x :: xs) = forR f s' xs := by
  show (f s x).bind _ = _
  rw [h]; rfl
/-- a search that finds nothing to return -/
theorem forR_all {α ρ : Type} {f : Unit → α → Option (ρ ⊕ Unit)} : ∀ {xs : List α}, (∀ x ∈ xs, f () x = some (.inr ())) → forR f () xs = some (.inr ())
  | [], _ => rfl
  | x :: xs, h => by
    rw [forR_step (h x (List.mem_cons_self ..))]
    exact forR_all fun y hy => h y (List.mem_cons_of_mem _ hy)
/-- a loop that appends what h gives -/
theorem forN_flat {α β : Type} {f : List β → α → Option (List β)} (h : α → List β) (h1 : ∀ x, (h x).length ≤ 1) : ∀ {xs : List α} {acc : List β}, acc.length + xs.length ≤ big → (∀ acc x, x ∈ xs → acc.length < big → f acc x = some (acc ++ h x)) → forN f acc xs = some (acc ++ xs.flatMap h)
  | [], acc, _, _ => by rw [List.flatMap_nil, List.append_nil]; rfl
  | x :: xs, acc, hb, hf => by
    rw [List.length_cons] at hb
    rw [forN_cons, hf acc x (List.mem_cons_self ..) (by omega), Option.bind_some, forN_flat h h1 (by rw [List.length_append]; have := h1 x; omega) fun a y hy => hf a y (List.mem_cons_of_mem _ hy), List.flatMap_cons, List.append_assoc]
/-- a walk by index is a walk over the pairs -/
theorem forN_index {α σ : Type} {f : σ → Int → Option σ} {g : σ → Int × α → Option σ} : ∀ (suf pre : List α) (s : σ), (∀ s (k : Nat) x, (pre ++ suf)[k]? = some x → f s (k : Int) = g s ((k : Int), x)) → forN f s (rng (pre.length : Int) ((pre ++ suf).length : Int)) = forN g s (enumF (pre.length : Int) suf)
  | [], pre, s, _ => by rw [rng_nil (by rw [List.append_nil]; omega)]; rfl
  | x :: suf, pre, s, h => by
    rw [rng_cons (by rw [List.length_append, List.length_cons]; omega)]
    show (f s (pre.length : Int)).bind _ = (g s ((pre.length : Int), x)).bind _
    rw [h s pre.length x (by rw [List.getElem?_append_right (Nat.le_refl _), Nat.sub_self]; rfl)]
    congr 1
    funext s'
    have e : pre ++ x :: suf = (pre ++ [x]) ++ suf := by rw [List.append_assoc]; rfl
    have e2 : ((pre ++ [x]).length : Int) = (pre.length : Int) + 1 := by rw [List.length_append]; rfl
    have z := forN_index suf (pre ++ [x]) s' (f := f) (g := g) (fun s k y hy => h s k y (by rw [e]; exact hy))
    rw [e2] at z
    rw [e]; exact z
theorem forN_index0 {α σ : Type} {f : σ → Int → Option σ} {g : σ → Int × α → Option σ} (xs : List α) (s : σ) (h : ∀ s (k : Nat) x, xs[k]? = some x → f s (k : Int) = g s ((k : Int), x)) : forN f s (rng 0 (xs.length : Int)) = forN g s (enumF 0 xs) := forN_index xs [] s h
theorem enumF_length {α : Type} : ∀ (k : Int) (xs : List α), (enumF k xs).length = xs.length
  | _, [] => rfl
  | k, _ :: ys => by show (enumF (k + 1) ys).length + 1 = ys.length + 1; rw [enumF_length]
theorem enumF_mem {α : Type} : ∀ (k : Int) (xs : List α) {p : Int × α}, p ∈ enumF k xs → p.2 ∈ xs
  | _, [], _, h => by cases h
  | k, y :: ys, p, h => by
    rcases List.mem_cons.mp h with rfl | h
    · exact List.mem_cons_self ..
    · exact List.mem_cons_of_mem _ (enumF_mem (k + 1) ys h)
theorem sortI_self {xs : List Int} (h : xs.Pairwise (· ≤ ·)) : sortI xs = xs := List.mergeSort_of_pairwise (List.Pairwise.imp (fun z => decide_eq_true z) h)
theorem at_mem {α : Type} {xs : List α} {i : Int} (h0 : 0 ≤ i) (h1 : i < xs.length) : ∃ x, at_ xs i = some x ∧ x ∈ xs := by
  obtain ⟨x, e, g⟩ := at_some h0 h1
  exact ⟨x, e, List.mem_of_getElem? g⟩
theorem popAt_ok {α : Type} {xs : List α} {i : Int} (h0 : 0 ≤ i) (h1 : i < xs.length) : ∃ x, popAt xs i = some (x, xs.eraseIdx i.toNat) := by
  have hj : i.toNat < xs.length := by omega
  refine ⟨xs[i.toNat], ?_⟩
  unfold popAt ixN
  rw [if_pos h0, if_pos h1, Option.bind_some, List.getElem?_eq_getElem hj]
  rfl
theorem guard_ok {c : Bool} (h : c = true) : guardO c = some () := if_pos h
theorem pairwise_flat {α : Type} {r : α → α → Prop} {h : α → List α} (hs : ∀ x, h x = [] ∨ h x = [x]) : ∀ {xs : List α}, xs.Pairwise r → (xs.flatMap h).Pairwise r ∧ ∀ y ∈ xs.flatMap h, y ∈ xs
  | [], _ => ⟨by rw [List.flatMap_nil]; exact .nil, fun y hy => by rw [List.flatMap_nil] at hy; exact hy⟩
  | x :: xs, p => by
    have pc := List.pairwise_cons.mp p
    obtain ⟨i1, i2⟩ := pairwise_flat hs pc.2
    rw [List.flatMap_cons]
    rcases hs x with e | e
    · rw [e, List.nil_append]
      exact ⟨i1, fun y hy => List.mem_cons_of_mem _ (i2 y hy)⟩
    · rw [e]
      refine ⟨List.pairwise_cons.mpr ⟨fun y hy => pc.1 y (i2 y hy), i1⟩, fun y hy => ?_⟩
      rcases List.mem_cons.mp hy with rfl | hy
      · exact List.mem_cons_self ..
      · exact List.mem_cons_of_mem _ (i2 y hy)
theorem rng_lt (lo hi : Int) : (rng lo hi).Pairwise (· < ·) := by
  unfold rng
  rw [List.pairwise_map]
  exact List.Pairwise.imp (fun h => by omega) List.pairwise_lt_range
theorem bd {α β : Type} {m : Option α} {f : α → Option β} {x : α} {r : Option β} (h : m = some x) (k : f x = r) : m.bind f = r := by rw [h]; exact k
theorem le_big {n : Nat} (h : n ≤ 100000) : n ≤ big := Nat.le_trans h (by decide)
theorem lt_big {n : Nat} (h : n ≤ 100000) : n < big := Nat.lt_of_le_of_lt h (by decide)
theorem flat_one {α : Type} : ∀ xs : List α, xs.flatMap (fun x => [x]) = xs
  | [] => rfl
  | x :: xs => by rw [List.flatMap_cons, flat_one xs]; rfl
theorem flat_le {α β : Type} {h : α → List β} (h1 : ∀ x, (h x).length ≤ 1) : ∀ xs : List α, (xs.flatMap h).length ≤ xs.length
  | [] => Nat.le_refl _
  | x :: xs => by rw [List.flatMap_cons, List.length_append, List.length_cons]; have := h1 x; have := flat_le h1 xs; omega
theorem ift {α : Type} {b : Bool} {x y r : Option α} (h : b = true) (k : x = r) : (if b = true then x else y) = r := by rw [if_pos h]; exact k
theorem iff' {α : Type} {b : Bool} {x y r : Option α} (h : b = false) (k : y = r) : (if b = true then x else y) = r := by rw [h, if_neg Bool.false_ne_true]; exact k
theorem forN_flatC {α β : Type} {f : List β → α → Option (List β)} (h : α → List β) (c : Nat) : ∀ {xs : List α} {acc : List β}, acc.length + c * xs.length ≤ 100000 → (∀ x ∈ xs, (h x).length ≤ c) → (∀ acc x, x ∈ xs → acc.length + c ≤ 100000 → f acc x = some (acc ++ h x)) → forN f acc xs = some (acc ++ xs.flatMap h)
  | [], acc, _, _, _ => by rw [List.flatMap_nil, List.append_nil]; rfl
  | x :: xs, acc, hb, h1, hf => by
    rw [List.length_cons, Nat.mul_add, Nat.mul_one] at hb
    rw [forN_cons, hf acc x (List.mem_cons_self ..) (by omega), Option.bind_some, forN_flatC h c (by rw [List.length_append]; have := h1 x (List.mem_cons_self ..); omega) (fun y hy => h1 y (List.mem_cons_of_mem _ hy)) fun a y hy => hf a y (List.mem_cons_of_mem _ hy), List.flatMap_cons, List.append_assoc]
theorem enumF_map {α β : Type} (g : α → β) : ∀ (k : Int) (xs : List α), enumF k (xs.map g) = (enumF k xs).map fun p => (p.1, g p.2)
  | _, [] => rfl
  | k, x :: xs => by show (k, g x) :: enumF (k + 1) (xs.map g) = (k, g x) :: _; rw [enumF_map g (k + 1) xs]
theorem flat_map {α β γ : Type} (g : α → β) (h : β → List γ) : ∀ xs : List α, (xs.map g).flatMap h = xs.flatMap fun x => h (g x)
  | [] => rfl
  | x :: xs => by rw [List.map_cons, List.flatMap_cons, List.flatMap_cons, flat_map g h xs]
theorem flat_sing {α β : Type} (g : α → β) : ∀ xs : List α, (xs.flatMap fun x => [g x]) = xs.map g
  | [] => rfl
  | x :: xs => by rw [List.flatMap_cons, flat_sing g xs]; rfl
theorem joinE_sing {α : Type} (g : α → Nat) : ∀ xs : List α, joinL [] (xs.map fun x => [g x]) = xs.map g
  | [] => rfl
  | [_] => rfl
  | x :: y :: r => by
    show [g x] ++ ([] ++ joinL [] ((y :: r).map fun x => [g x])) = _
    rw [joinE_sing g (y :: r)]; rfl
theorem sum_sing {α : Type} (g : α → Nat) : ∀ xs : List α, ((xs.map fun x => [g x]).map (·.length)).sum = xs.length
  | [] => rfl
  | x :: xs => by
    rw [List.map_cons, List.map_cons, List.sum_cons, sum_sing g xs]
    show 1 + xs.length = xs.length + 1
    omega
theorem sJoin_sing {α : Type} (g : α → Nat) {xs : List α} (h : xs.length ≤ 100000) : sJoin [] (xs.map fun x => [g x]) = some (xs.map g) := by
  unfold sJoin
  rw [sum_sing, joinE_sing, if_pos (by show xs.length + _ * 0 ≤ big; rw [Nat.mul_zero]; exact le_big h)]
theorem sLen_ok {s : List Nat} (h : s.length ≤ 100000) : sLen s = some (s.length : Int) := if_pos (le_big h)
theorem sAt_ok {s : List Nat} {i : Int} (h : s.length ≤ 100000) (h0 : 0 ≤ i) (h1 : i < s.length) : sAt s i = some [s[i.toNat]?.getD 0] ∧ s[i.toNat]?.getD 0 ∈ s := by
  obtain ⟨x, e, g⟩ := at_some h0 h1
  unfold sAt
  rw [if_pos (le_big h), e, g]
  exact ⟨rfl, List.mem_of_getElem? g⟩
theorem sCut_ok {s : List Nat} {lo hi : Option Int} (h : s.length ≤ 100000) : sCut s lo hi = some (cut s lo hi) := if_pos (le_big h)
theorem sCat_ok {s t : List Nat} (h : s.length + t.length ≤ 100000) : sCat s t = some (s ++ t) := if_pos (le_big h)
theorem cut_mem {α : Type} {xs : List α} {lo hi : Option Int} {x : α} (h : x ∈ cut xs lo hi) : x ∈ xs := List.mem_of_mem_drop (List.mem_of_mem_take h)
theorem cut_to {α : Type} {xs : List α} {i : Int} (h0 : 0 ≤ i) (h1 : i ≤ xs.length) : (cut xs none (some i)).length = i.toNat := by
  show ((xs.drop 0).take ((if i < 0 then (i + (xs.length : Int)).toNat else min i.toNat xs.length) - 0)).length = _
  rw [if_neg (by omega), List.length_take, List.length_drop]
  omega
theorem cut_from {α : Type} {xs : List α} {i : Int} (h0 : 0 ≤ i) (h1 : i ≤ xs.length) : (cut xs (some i) none).length = xs.length - i.toNat := by
  show ((xs.drop (if i < 0 then (i + (xs.length : Int)).toNat else min i.toNat xs.length)).take (xs.length - (if i < 0 then (i + (xs.length : Int)).toNat else min i.toNat xs.length))).length = _
  rw [if_neg (by omega), List.length_take, List.length_drop]
  omega
theorem map_erase {α β : Type} (f : α → β) : ∀ (xs : List α) (k : Nat), (xs.map f).eraseIdx k = (xs.eraseIdx k).map f
  | [], _ => rfl
  | x :: xs, 0 => rfl
  | x :: xs, k + 1 => by
    show f x :: (xs.map f).eraseIdx k = f x :: (xs.eraseIdx k).map f
    rw [map_erase f xs k]

abbrev Lt := Int × List Nat × Int
def Sg (s : List Nat) : Prop := ∀ c ∈ s, c = 42 ∨ c = 46
def Pat (p : List Nat) : Prop := 1 ≤ p.length ∧ p.length ≤ 12 ∧ Sg p
def Wd (p : List Nat) : Prop := p.length ≤ 60 ∧ Sg p
theorem sg_ok {s : List Nat} (h : Sg s) : okS s = true := by
  unfold okS
  rw [List.all_eq_true]
  intro c hc
  rcases h c hc with rfl | rfl <;> rfl
def sh (p : List Nat) (h n : Int) : List Nat := (rng 0 n).map fun k => p[((h + k) % (p.length : Int)).toNat]?.getD 0
theorem sh_len (p : List Nat) (h n : Int) : (sh p h n).length = n.toNat := by unfold sh; rw [List.length_map, rng_length]; omega
theorem idx_ok {p : List Nat} (hp : Pat p) (i : Int) : 0 ≤ i % (p.length : Int) ∧ i % (p.length : Int) < p.length := by
  have h1 := hp.1
  exact ⟨Int.emod_nonneg _ (by omega), Int.emod_lt_of_pos _ (by omega)⟩
theorem sh_sg {p : List Nat} (hp : Pat p) (h n : Int) : Sg (sh p h n) := by
  intro c hc
  unfold sh at hc
  obtain ⟨k, _, rfl⟩ := List.mem_map.mp hc
  obtain ⟨i0, i1⟩ := idx_ok hp (h + k)
  exact hp.2.2 _ (sAt_ok (by have := hp.2.1; omega) i0 i1).2
theorem shown_ok {p : List Nat} (hp : Pat p) {h n : Int} (n0 : 0 ≤ n) (n1 : n ≤ 1000) : m_l_shown p h n = some (sh p h n) := by
  unfold m_l_shown
  have hl : p.length ≤ 100000 := by have := hp.2.1; omega
  refine bd (rngO_ok (by decide) (by decide) (by omega) (by omega)) (bd (forN_flat (h := fun k => [[p[((h + k) % (p.length : Int)).toNat]?.getD 0]]) (fun _ => Nat.le_refl _) (by rw [rng_length]; exact le_big (by show 0 + (n - 0).toNat ≤ 100000; omega)) (fun acc x hx hb => ?_)) ?_)
  · obtain ⟨i0, i1⟩ := idx_ok hp (h + x)
    exact bd (sLen_ok hl) (bd (mod_ok (by have := hp.1; omega)) (bd (sAt_ok hl i0 i1).1 (bd (app_ok hb) rfl)))
  · rw [List.nil_append, flat_sing]
    exact bd (sJoin_sing _ (by rw [rng_length]; omega)) rfl
theorem flashes_ok {a b : Int} {p : List Nat} (hp : Pat p) {h n : Int} (n0 : 0 ≤ n) (n1 : n ≤ 1000) : m_flashes (a, p, b) h n = some (sh p h n) := by
  unfold m_flashes
  have hl : p.length ≤ 100000 := by have := hp.2.1; omega
  refine bd (sLen_ok hl) (bd (rngO_ok (by decide) (by decide) (by omega) (by omega)) (bd (forN_flat (h := fun k => [[p[((h + k) % (p.length : Int)).toNat]?.getD 0]]) (fun _ => Nat.le_refl _) (by rw [rng_length]; exact le_big (by show 0 + (n - 0).toNat ≤ 100000; omega)) (fun acc x hx hb => ?_)) ?_))
  · obtain ⟨i0, i1⟩ := idx_ok hp (h + x)
    exact bd (mod_ok (i := h + x) (j := (p.length : Int)) (by have := hp.1; omega)) (bd (sAt_ok hl i0 i1).1 (bd (app_ok hb) rfl))
  · rw [List.nil_append, flat_sing]
    exact bd (sJoin_sing _ (by rw [rng_length]; omega)) rfl
def one (w : List Nat) (q : Int × List Nat) (f : Int) : List (Int × Int) := if sh q.2 f (w.length : Int) = w then [(q.1, f)] else []
def row (w : List Nat) (q : Int × List Nat) : List (Int × Int) := (rng 0 (q.2.length : Int)).flatMap (one w q)
theorem one_le (w : List Nat) (q : Int × List Nat) (f : Int) : (one w q f).length ≤ 1 := by unfold one; split <;> simp
theorem row_le {w : List Nat} {q : Int × List Nat} (h : q.2.length ≤ 12) : (row w q).length ≤ 12 := by
  have h1 := flat_le (one_le w q) (rng 0 (q.2.length : Int))
  rw [rng_length] at h1
  unfold row; omega
def rd (w : List Nat) (rows : List (List Nat)) : List (Int × Int) := (enumF 0 rows).flatMap (row w)
theorem readings_ok {L : List Lt} {w : List Nat} (hw : Wd w) (hL : ∀ l ∈ L, Pat l.2.1) (hn : L.length ≤ 100) : m_readings L w = some (rd w (L.map fun l => l.2.1)) := by
  have wl := hw.1
  unfold m_readings
  refine bd (forN_flatC (h := fun x : Int × Lt => row w (x.1, x.2.2.1)) 12 (by rw [enumF_length]; show 0 + 12 * L.length ≤ 100000; omega) (fun x hx => row_le (hL _ (enumF_mem 0 L hx)).2.1) (fun acc x hx hb => ?_)) ?_
  · have hp := hL _ (enumF_mem 0 L hx)
    have hl : x.2.2.1.length ≤ 100000 := by have := hp.2.1; omega
    refine bd (sLen_ok hl) (bd (rngO_ok (by decide) (by decide) (by omega) (by have := hp.2.1; omega)) (bd (forN_flat (h := one w (x.1, x.2.2.1)) (one_le w _) (by rw [rng_length]; refine le_big ?_; have := hp.2.1; omega) (fun acc2 f hf hb2 => ?_)) rfl))
    unfold m_readings_b2
    refine bd (bd (sLen_ok (by omega)) (bd (flashes_ok (a := x.2.1) (b := x.2.2.2) hp (h := f) (n := (w.length : Int)) (by omega) (by omega)) ?_)) rfl
    unfold one
    by_cases c : sh x.2.2.1 f (w.length : Int) = w
    · rw [if_pos (decide_eq_true c), if_pos c]; exact bd (app_ok hb2) rfl
    · rw [if_neg (by simpa using c), if_neg c, List.append_nil]
  · unfold rd
    rw [enumF_map, flat_map]
    rfl
def gI (w : List Nat) (q : Int × List Nat) (s : List (Int × Int)) (f : Int) : Option (List (Int × Int)) :=
  (sLen w).bind fun n => (m_l_shown q.2 f n).bind fun z => if decide (z = w) = true then app s (q.1, f) else some s
def gO (w : List Nat) (s : List (Int × Int)) (q : Int × List Nat) : Option (List (Int × Int)) :=
  (sLen q.2).bind fun n => (rngO 0 n).bind fun g => forN (gI w q) s g
theorem bind_id {α : Type} (m : Option α) : (m.bind fun x => some x) = m := by cases m <;> rfl
theorem lreadings_ok {R : List (List Nat)} {w : List Nat} (hw : Wd w) (hR : ∀ p ∈ R, Pat p) (hn : R.length ≤ 100) : m_l_readings R w = some (rd w R) := by
  have wl := hw.1
  unfold m_l_readings
  refine bd (rngO_ok (by decide) (by decide) (by omega) (by omega)) ?_
  rw [forN_index0 (g := gO w) R [] (fun acc k p hk => ?_)]
  · refine bd (forN_flatC (h := row w) 12 (by rw [enumF_length]; show 0 + 12 * R.length ≤ 100000; omega) (fun x hx => row_le (hR _ (enumF_mem 0 R hx)).2.1) (fun acc x hx hb => ?_)) rfl
    have hp := hR _ (enumF_mem 0 R hx)
    have hl : x.2.length ≤ 100000 := by have := hp.2.1; omega
    refine bd (sLen_ok hl) (bd (rngO_ok (by decide) (by decide) (by omega) (by have := hp.2.1; omega)) (forN_flat (h := one w x) (one_le w _) (by rw [rng_length]; refine le_big ?_; have := hp.2.1; omega) (fun acc2 f hf hb2 => ?_)))
    refine bd (sLen_ok (by omega)) (bd (shown_ok hp (h := f) (n := (w.length : Int)) (by omega) (by omega)) ?_)
    unfold one
    by_cases c : sh x.2 f (w.length : Int) = w
    · rw [if_pos (decide_eq_true c), if_pos c]; exact app_ok hb2
    · rw [if_neg (by simpa using c), if_neg c, List.append_nil]
  · have e : m_l_readings_b2 R w (k : Int) = gI w ((k : Int), p) := by
      funext s f
      simp only [m_l_readings_b2, at_nat hk, Option.bind_some, gI, bind_id]
    simp only [m_l_readings_b1, at_nat hk, Option.bind_some, gO, e, bind_id]
theorem rd_sorted (w : List Nat) : ∀ (k : Int) (R : List (List Nat)), ((enumF k R).flatMap (row w)).Pairwise (fun a b => a.1 ≤ b.1) ∧ ∀ x ∈ (enumF k R).flatMap (row w), k ≤ x.1
  | k, [] => ⟨List.Pairwise.nil, fun x hx => by cases hx⟩
  | k, p :: R => by
    obtain ⟨i1, i2⟩ := rd_sorted w (k + 1) R
    have e : enumF k (p :: R) = (k, p) :: enumF (k + 1) R := rfl
    rw [e, List.flatMap_cons]
    have hk : ∀ x ∈ row w (k, p), x.1 = k := by
      intro x hx
      unfold row at hx
      obtain ⟨f, _, hf⟩ := List.mem_flatMap.mp hx
      unfold one at hf
      split at hf
      · obtain rfl := List.mem_singleton.mp hf; rfl
      · cases hf
    refine ⟨List.pairwise_append.mpr ⟨?_, i1, fun a ha b hb => ?_⟩, fun x hx => ?_⟩
    · have : ∀ l : List (Int × Int), (∀ x ∈ l, x.1 = k) → l.Pairwise (fun a b => a.1 ≤ b.1) := by
        intro l
        induction l with
        | nil => intro _; exact .nil
        | cons y l ih =>
          intro h
          refine List.pairwise_cons.mpr ⟨fun b hb => ?_, ih fun x hx => h x (List.mem_cons_of_mem _ hx)⟩
          rw [h y (List.mem_cons_self ..), h b (List.mem_cons_of_mem _ hb)]
          exact Int.le_refl _
      exact this _ hk
    · have := hk a ha
      have := i2 b hb
      omega
    · rcases List.mem_append.mp hx with hx | hx
      · rw [hk x hx]; exact Int.le_refl _
      · have := i2 x hx
        omega
def cert (R : List (Int × Int)) : Option Int := match R with
  | [] => none
  | x :: r => if r.all (fun y => decide (y.1 = x.1)) = true then some x.1 else none
theorem lcertain_ok {R : List (Int × Int)} (hl : R.length ≤ 100000) : m_l_certain R = some (cert R) := by
  cases R with
  | nil => rfl
  | cons x r =>
    unfold m_l_certain
    have e0 : at_ (x :: r) 0 = some x := at0 x r
    have h0 : decide (((x :: r).length : Int) = 0) = false := decide_eq_false (by rw [List.length_cons]; omega)
    have hf : forN (m_l_certain_b1 (x :: r)) [] (x :: r) = some ([] ++ (x :: r).flatMap fun y => if y.1 = x.1 then [] else [y]) := forN_flat _ (fun y => by by_cases c : y.1 = x.1 <;> simp [c]) (le_big (by simpa using hl)) (fun acc y _ hb => by
      unfold m_l_certain_b1
      refine bd e0 ?_
      by_cases c : y.1 = x.1
      · rw [decide_eq_true c, if_pos c, List.append_nil]; rfl
      · rw [decide_eq_false c, if_neg c]; exact bd (app_ok hb) rfl)
    rw [List.nil_append, List.flatMap_cons, if_pos rfl, List.nil_append] at hf
    by_cases c : r.all (fun y => decide (y.1 = x.1)) = true
    · have hz : (r.flatMap fun y => if y.1 = x.1 then [] else [y]) = [] := by
        rw [List.flatMap_eq_nil_iff]
        intro y hy
        rw [if_pos (of_decide_eq_true (List.all_eq_true.mp c y hy))]
      rw [hz] at hf
      refine bd (x := false) (iff' h0 (bd hf rfl)) (iff' rfl (bd e0 ?_))
      show some (some x.1) = some (if r.all (fun y => decide (y.1 = x.1)) = true then some x.1 else none)
      rw [if_pos c]
    · have hz : 0 < ((r.flatMap fun y => if y.1 = x.1 then [] else [y]).length : Int) := by
        cases hq : (r.flatMap fun y => if y.1 = x.1 then [] else [y]) with
        | nil =>
          exfalso; apply c
          rw [List.all_eq_true]
          intro y hy
          have := List.flatMap_eq_nil_iff.mp hq y hy
          by_cases cy : y.1 = x.1
          · exact decide_eq_true cy
          · rw [if_neg cy] at this; cases this
        | cons z zs => rw [List.length_cons]; omega
      refine bd (x := true) (iff' h0 (bd hf (by rw [decide_eq_true hz]))) ?_
      show some none = some (if r.all (fun y => decide (y.1 = x.1)) = true then some x.1 else none)
      rw [if_neg c]
theorem at_last {α : Type} (x : α) (r : List α) : ∃ y, at_ (x :: r) (-1) = some y ∧ (r = [] ∧ y = x ∨ ∃ pre, r = pre ++ [y]) := by
  rcases List.eq_nil_or_concat r with rfl | ⟨pre, y, rfl⟩
  · exact ⟨x, rfl, .inl ⟨rfl, rfl⟩⟩
  · rw [List.concat_eq_append]
    refine ⟨y, ?_, .inr ⟨pre, rfl⟩⟩
    unfold at_ ixN
    have hl : (x :: (pre ++ [y])).length = pre.length + 2 := by simp
    rw [if_neg (by decide), if_pos (by rw [hl]; omega)]
    simp only [Option.bind_some, hl]
    have e : ((-1 : Int) + ((pre.length + 2 : Nat) : Int)).toNat = pre.length + 1 := by omega
    rw [e]
    simp
theorem certain_ok {L : List Lt} {w : List Nat} (hw : Wd w) (hL : ∀ l ∈ L, Pat l.2.1) (hn : L.length ≤ 100) : m_certain_light L w = some (cert (rd w (L.map fun l => l.2.1))) := by
  unfold m_certain_light
  refine bd (readings_ok hw hL hn) ?_
  have hs := (rd_sorted w 0 (L.map fun l => l.2.1)).1
  show Option.bind _ _ = _
  generalize hR : rd w (L.map fun l => l.2.1) = R
  have hs' : R.Pairwise (fun a b => a.1 ≤ b.1) := by rw [← hR]; exact hs
  cases R with
  | nil => rfl
  | cons x r =>
    have h0 : decide (((x :: r).length : Int) = 0) = false := decide_eq_false (by rw [List.length_cons]; omega)
    have e0 : at_ (x :: r) 0 = some x := at0 x r
    obtain ⟨y, ey, hy⟩ := at_last x r
    have key : (decide (x.1 = y.1)) = r.all (fun z => decide (z.1 = x.1)) := by
      have pc := List.pairwise_cons.mp hs'
      rcases hy with ⟨rfl, rfl⟩ | ⟨pre, rfl⟩
      · rw [decide_eq_true rfl]; rfl
      · by_cases c : x.1 = y.1
        · rw [decide_eq_true c]
          symm
          rw [List.all_eq_true]
          intro z hz
          have h1 := pc.1 z hz
          rcases List.mem_append.mp hz with hz2 | hz2
          · have h2 := (List.pairwise_append.mp pc.2).2.2 z hz2 y (List.mem_singleton.mpr rfl)
            exact decide_eq_true (by omega)
          · obtain rfl := List.mem_singleton.mp hz2
            exact decide_eq_true c.symm
        · rw [decide_eq_false c]
          symm
          rw [Bool.eq_false_iff]
          intro hh
          have := List.all_eq_true.mp hh y (List.mem_append_right _ (List.mem_singleton.mpr rfl))
          exact c (of_decide_eq_true this).symm
    refine bd (x := !(r.all fun z => decide (z.1 = x.1))) (iff' h0 (bd e0 (bd ey (by rw [key])))) ?_
    show _ = some (if r.all (fun y => decide (y.1 = x.1)) = true then some x.1 else none)
    cases hc : r.all fun z => decide (z.1 = x.1) with
    | true => exact iff' rfl (bd e0 rfl)
    | false => exact ift rfl rfl
theorem pairs_ok (R : List (Int × Int)) : m_l_are_pairs R R = some true := by
  unfold m_l_are_pairs
  refine iff' (by rw [decide_eq_true rfl]; rfl) (bd (forR_all fun x _ => rfl) ?_)
  show some (decide (R = R)) = some true
  rw [decide_eq_true rfl]
theorem number_ok (c : Option Int) : m_l_is_number c c = some true := by
  cases c with
  | none => rfl
  | some x =>
    unfold m_l_is_number
    refine iff' rfl (bd (x := true) ?_ rfl)
    show some (decide (x = x)) = some true
    rw [decide_eq_true rfl]
theorem reads_ok {L : List Lt} {w : List Nat} (hw : Wd w) (hL : ∀ l ∈ L, Pat l.2.1) (hn : L.length ≤ 100) : m_l_reads L (L.map fun l => l.2.1) w = some true := by
  have hR : ∀ p ∈ L.map (fun l => l.2.1), Pat p := fun p hp => by
    obtain ⟨l, hl, rfl⟩ := List.mem_map.mp hp
    exact hL l hl
  have hlen : (rd w (L.map fun l => l.2.1)).length ≤ 90000 := by
    have : ∀ (k : Int) (Q : List (List Nat)), (∀ p ∈ Q, Pat p) → ((enumF k Q).flatMap (row w)).length ≤ 12 * Q.length := by
      intro k Q
      induction Q generalizing k with
      | nil => intro _; exact Nat.le_refl _
      | cons q Q ih =>
        intro hQ
        have e : enumF k (q :: Q) = (k, q) :: enumF (k + 1) Q := rfl
        rw [e, List.flatMap_cons, List.length_append, List.length_cons]
        have h1 := row_le (w := w) (q := (k, q)) (hQ q (List.mem_cons_self ..)).2.1
        have h2 := ih (k + 1) fun p hp => hQ p (List.mem_cons_of_mem _ hp)
        omega
    have h := this 0 _ hR
    rw [List.length_map] at h
    unfold rd; omega
  unfold m_l_reads
  refine bd (lreadings_ok hw hR (by rw [List.length_map]; exact hn)) (bd (readings_ok hw hL hn) ?_)
  refine bd (x := false) (bd (pairs_ok _) (iff' rfl (bd (certain_ok hw hL hn) (bd (lcertain_ok (by omega)) (bd (number_ok _) rfl))))) (iff' rfl ?_)
  refine bd (app_ok (lt_big (by omega))) (bd (x := true) (bd (readings_ok hw hL hn) (bd (pairs_ok _) (ift rfl ?_))) rfl)
  refine bd (forN_flat (h := fun l : Lt => [l.2.1]) (fun _ => Nat.le_refl _) (le_big (by show 0 + L.length ≤ 100000; omega)) (fun acc x _ hb => bd (app_ok hb) rfl)) ?_
  rw [List.nil_append, flat_sing]
  have ho : ((L.map fun l => l.2.1).all fun z => okS z) = true := by
    rw [List.all_eq_true]
    exact fun p hp => sg_ok (hR p hp).2.2
  refine bd (guard_ok (by rw [ho]; rfl)) ?_
  rw [decide_eq_true rfl]
/-! ### what is drawn -/
theorem sign_ok {i : Int} : ∃ c, sAt [42, 46] (i % 2) = some [c] ∧ (c = 42 ∨ c = 46) := by
  have h0 := Int.emod_nonneg i (show (2 : Int) ≠ 0 by decide)
  have h1 := Int.emod_lt_of_pos i (show (0 : Int) < 2 by decide)
  rcases (show i % 2 = 0 ∨ i % 2 = 1 by omega) with e | e <;> rw [e]
  · exact ⟨42, rfl, .inl rfl⟩
  · exact ⟨46, rfl, .inr rfl⟩
theorem shr_ok {i j : Int} (h : 0 ≤ j) : shr i j = some (i / 2 ^ j.toNat) := if_pos h
def sgn (i : Int) : Nat := if i % 2 = 0 then 42 else 46
theorem sgn_at (i : Int) : sAt [42, 46] (i % 2) = some [sgn i] := by
  have h0 := Int.emod_nonneg i (show (2 : Int) ≠ 0 by decide)
  have h1 := Int.emod_lt_of_pos i (show (0 : Int) < 2 by decide)
  unfold sgn
  rcases (show i % 2 = 0 ∨ i % 2 = 1 by omega) with e | e <;> rw [e] <;> rfl
theorem sgn_sg (i : Int) : sgn i = 42 ∨ sgn i = 46 := by unfold sgn; split; exact .inl rfl; exact .inr rfl
theorem bits_sg (b n : Int) : Sg ((rng 0 n).map fun x => sgn (b / 2 ^ x.toNat)) := fun c hc => by
  obtain ⟨x, _, rfl⟩ := List.mem_map.mp hc
  exact sgn_sg _
theorem pattern_ok {h : List Int} (hh : Hd h) : ∃ p h', m_l_pattern h = some (p, h') ∧ Pat p ∧ Hd h' := by
  unfold m_l_pattern
  obtain ⟨a, h1, e1, a0, a1, hh1⟩ := pick_ok hh (n := 12) (by decide) (by decide)
  obtain ⟨b, h2, e2, b0, b1, hh2⟩ := pick_ok hh1 (n := 4096) (by decide) (by decide)
  refine ⟨(rng 0 (1 + a)).map fun x => sgn (b / 2 ^ x.toNat), h2, ?_, ⟨?_, ?_, bits_sg b _⟩, hh2⟩
  · refine bd e1 (bd e2 (bd (rngO_ok (by decide) (by decide) (by show -(2 ^ 60) ≤ 1 + a; omega) (by show 1 + a < 2 ^ 60; omega)) (bd (forN_flat (h := fun x => [[sgn (b / 2 ^ x.toNat)]]) (fun _ => Nat.le_refl _) (by rw [rng_length]; exact le_big (by show 0 + (1 + a - 0).toNat ≤ 100000; omega)) (fun acc x hx hb => bd (shr_ok (mem_rng.mp hx).1) (bd (sgn_at _) (bd (app_ok hb) rfl)))) ?_)))
    rw [List.nil_append, flat_sing]
    exact bd (sJoin_sing _ (by rw [rng_length]; omega)) rfl
  · rw [List.length_map, rng_length]; omega
  · rw [List.length_map, rng_length]; omega
theorem changed_ok {s : List Nat} {i : Int} (hs : Sg s) (hl : s.length ≤ 1000) (i0 : 0 ≤ i) (i1 : i < s.length) : ∃ t, m_l_changed s i = some t ∧ Sg t ∧ t.length = s.length := by
  unfold m_l_changed
  obtain ⟨ea, _⟩ := sAt_ok (s := s) (by omega) i0 i1
  have hb : ∃ c, sAt [42, 46] (bI (decide ([s[i.toNat]?.getD 0] = [42]))) = some [c] ∧ (c = 42 ∨ c = 46) := by
    cases decide ([s[i.toNat]?.getD 0] = [42])
    · exact ⟨42, rfl, .inl rfl⟩
    · exact ⟨46, rfl, .inr rfl⟩
  obtain ⟨c, ec, hc⟩ := hb
  have l1 := cut_to (xs := s) i0 (by omega)
  have l2 := cut_from (xs := s) (i := i + 1) (by omega) (by omega)
  refine ⟨(cut s none (some i) ++ [c]) ++ cut s (some (i + 1)) none, ?_, fun x hx => ?_, ?_⟩
  · refine bd (sCut_ok (by omega)) (bd ea (bd ec (bd (sCat_ok (by rw [l1]; show i.toNat + 1 ≤ 100000; omega)) (bd (sCut_ok (by omega)) (bd (sCat_ok (by rw [List.length_append, l1, l2]; show i.toNat + 1 + _ ≤ 100000; omega)) rfl)))))
  · rcases List.mem_append.mp hx with hx | hx
    · rcases List.mem_append.mp hx with hx | hx
      · exact hs x (cut_mem hx)
      · obtain rfl := List.mem_singleton.mp hx; exact hc
    · exact hs x (cut_mem hx)
  · rw [List.length_append, List.length_append, l1, l2]
    show i.toNat + 1 + _ = _
    omega
theorem kin_ok {h : List Int} (hh : Hd h) {p : List Nat} (hp : Pat p) : ∃ q h', m_l_kin h p = some (q, h') ∧ Pat q ∧ Hd h' := by
  obtain ⟨p1, p2, p3⟩ := hp
  unfold m_l_kin
  obtain ⟨a, h1, e1, a0, a1, hh1⟩ := pick_ok hh (n := 4) (by decide) (by decide)
  obtain ⟨b, h2, e2, b0, b1, hh2⟩ := pick_ok hh1 (n := (p.length : Int)) (by omega) (by omega)
  have start : ∀ {r : Option (List Nat × List Int)}, (if decide (a = 0) = true then some (p, h2) else if decide (a = 1) = true then (sCut p (some b) none).bind fun x8 => (sCut p none (some b)).bind fun x9 => (sCat x8 x9).bind fun x10 => some (x10, h2)
      else (if decide (a = 2) = true then (sLen p).bind fun x12 => some (decide (x12 < 7)) else some false).bind fun b13 => if b13 = true then (sCat p p).bind fun x14 => some (x14, h2) else (m_l_changed p b).bind fun q15 => some (q15, h2)) = r → ((m_l_pick h 4).bind fun q1 =>
      (sLen p).bind fun x4 => (m_l_pick q1.2 x4).bind fun q5 => if decide (q1.1 = 0) = true then some (p, q5.2) else if decide (q1.1 = 1) = true then (sCut p (some q5.1) none).bind fun x8 => (sCut p none (some q5.1)).bind fun x9 => (sCat x8 x9).bind fun x10 => some (x10, q5.2)
      else (if decide (q1.1 = 2) = true then (sLen p).bind fun x12 => some (decide (x12 < 7)) else some false).bind fun b13 => if b13 = true then (sCat p p).bind fun x14 => some (x14, q5.2) else (m_l_changed p q5.1).bind fun q15 => some (q15, q5.2)) = r := fun h => bd e1 (bd (sLen_ok (by omega)) (bd e2 h))
  obtain ⟨t, et, ht, lt⟩ := changed_ok (s := p) (i := b) p3 (by omega) b0 b1
  by_cases c0 : a = 0
  · exact ⟨p, h2, start (ift (decide_eq_true c0) rfl), ⟨p1, p2, p3⟩, hh2⟩
  by_cases c1 : a = 1
  · have l1 := cut_to (xs := p) b0 (by omega)
    have l2 := cut_from (xs := p) b0 (by omega)
    refine ⟨cut p (some b) none ++ cut p none (some b), h2, start (iff' (decide_eq_false c0) (ift (decide_eq_true c1) (bd (sCut_ok (by omega)) (bd (sCut_ok (by omega)) (bd (sCat_ok (by omega)) rfl))))), ⟨?_, ?_, fun x hx => ?_⟩, hh2⟩
    · rw [List.length_append, l1, l2]; omega
    · rw [List.length_append, l1, l2]; omega
    · rcases List.mem_append.mp hx with hx | hx <;> exact p3 x (cut_mem hx)
  have last : Pat t := ⟨by omega, by omega, ht⟩
  by_cases c2 : a = 2
  · by_cases c3 : (p.length : Int) < 7
    · refine ⟨p ++ p, h2, start (iff' (decide_eq_false c0) (iff' (decide_eq_false c1) (bd (x := true) (ift (decide_eq_true c2) (bd (sLen_ok (by omega)) (by rw [decide_eq_true c3]))) (ift rfl (bd (sCat_ok (by omega)) rfl))))), ⟨?_, ?_, fun x hx => ?_⟩, hh2⟩
      · rw [List.length_append]; omega
      · rw [List.length_append]; omega
      · rcases List.mem_append.mp hx with hx | hx <;> exact p3 x hx
    · exact ⟨t, h2, start (iff' (decide_eq_false c0) (iff' (decide_eq_false c1) (bd (x := false) (ift (decide_eq_true c2) (bd (sLen_ok (by omega)) (by rw [decide_eq_false c3]))) (iff' rfl (bd et rfl))))), last, hh2⟩
  · exact ⟨t, h2, start (iff' (decide_eq_false c0) (iff' (decide_eq_false c1) (bd (x := false) (iff' (decide_eq_false c2) rfl) (iff' rfl (bd et rfl))))), last, hh2⟩
theorem patterns_ok {h : List Int} (hh : Hd h) {n : Int} (n0 : 0 ≤ n) (n1 : n ≤ 8) : ∃ R h', m_l_patterns h n = some (R, h') ∧ (∀ p ∈ R, Pat p) ∧ R.length ≤ 8 ∧ Hd h' := by
  unfold m_l_patterns
  have key : ∀ (ks : List Int) (h : List Int) (R : List (List Nat)), Hd h → (∀ p ∈ R, Pat p) → R.length + ks.length ≤ 8 → ∃ h' R', forN m_l_patterns_b1 (h, R) ks = some (h', R') ∧ (∀ p ∈ R', Pat p) ∧ R'.length ≤ 8 ∧ Hd h' := by
    intro ks
    induction ks with
    | nil => intro h R hh hR hl; exact ⟨h, R, rfl, hR, by simpa using hl, hh⟩
    | cons k ks ih =>
      intro h R hh hR hl
      rw [List.length_cons] at hl
      have st : ∃ h' q, m_l_patterns_b1 (h, R) k = some (h', R ++ [q]) ∧ Pat q ∧ Hd h' := by
        unfold m_l_patterns_b1
        have j : ∃ b h1, ((if decide ((0 : Int) < (R.length : Int)) = true then (m_l_pick h 2).bind fun q17 => some (decide (q17.1 = 0), q17.2) else some (false, h)) : Option (Bool × List Int)) = some (b, h1) ∧ (b = true → 0 < R.length) ∧ Hd h1 := by
          by_cases c : (0 : Int) < (R.length : Int)
          · obtain ⟨a, h1, e1, a0, a1, hh1⟩ := pick_ok hh (n := 2) (by decide) (by decide)
            exact ⟨_, h1, ift (decide_eq_true c) (bd e1 rfl), fun _ => by omega, hh1⟩
          · exact ⟨false, h, iff' (decide_eq_false c) rfl, (fun z => absurd z Bool.false_ne_true), hh⟩
        obtain ⟨b, h1, ej, hb, hh1⟩ := j
        cases b with
        | true =>
          have := hb rfl
          obtain ⟨a, h2, e2, a0, a1, hh2⟩ := pick_ok hh1 (n := (R.length : Int)) (by omega) (by omega)
          obtain ⟨p, ep, mp⟩ := at_mem (xs := R) a0 a1
          obtain ⟨q, h3, e3, hq, hh3⟩ := kin_ok hh2 (hR p mp)
          exact ⟨h3, q, bd (x := (h3, R ++ [q])) (bd ej (ift rfl (bd e2 (bd ep (bd e3 (bd (app_ok (xs := R) (lt_big (by omega))) rfl)))))) rfl, hq, hh3⟩
        | false =>
          obtain ⟨q, h3, e3, hq, hh3⟩ := pattern_ok hh1
          exact ⟨h3, q, bd (x := (h3, R ++ [q])) (bd ej (iff' rfl (bd e3 (bd (app_ok (xs := R) (lt_big (by omega))) rfl)))) rfl, hq, hh3⟩
      obtain ⟨h', q, e, hq, hh'⟩ := st
      obtain ⟨h2, R2, e2, p1, p2, p3⟩ := ih h' (R ++ [q]) hh' (fun p hp => by
        rcases List.mem_append.mp hp with hp | hp
        · exact hR p hp
        · obtain rfl := List.mem_singleton.mp hp; exact hq) (by rw [List.length_append]; show R.length + 1 + ks.length ≤ 8; omega)
      exact ⟨h2, R2, bd e e2, p1, p2, p3⟩
  obtain ⟨h', R, e, p1, p2, p3⟩ := key (rng 0 n) h [] hh (fun p hp => by cases hp) (by rw [rng_length]; show 0 + (n - 0).toNat ≤ 8; omega)
  exact ⟨R, h', bd (rngO_ok (by decide) (by decide) (by omega) (by omega)) (bd e rfl), p1, p2, p3⟩
theorem word_ok {h : List Int} (hh : Hd h) {R : List (List Nat)} (hR : ∀ p ∈ R, Pat p) (hl : R.length ≤ 100) : ∃ w h', m_l_word h R = some (w, h') ∧ Wd w ∧ Hd h' := by
  unfold m_l_word
  obtain ⟨a, h1, e1, a0, a1, hh1⟩ := pick_ok hh (n := 4) (by decide) (by decide)
  obtain ⟨m, em, hm⟩ := at_mem (xs := [(61 : Int), 13, 13, 13]) a0 a1
  have hm' : m = 61 ∨ m = 13 := by
    simp only [List.mem_cons, List.not_mem_nil, or_false] at hm; omega
  obtain ⟨n, h2, e2, n0, n1, hh2⟩ := pick_ok hh1 (n := m) (by omega) (by omega)
  obtain ⟨kd, h3, e3, k0, k1, hh3⟩ := pick_ok hh2 (n := 4) (by decide) (by decide)
  by_cases c : (decide (kd = 3) || decide ((R.length : Int) = 0)) = true
  · obtain ⟨b, h4, e4, b0, b1, hh4⟩ := pick_ok hh3 (n := 2 ^ 60) (by decide) (by decide)
    refine ⟨(rng 0 n).map fun x => sgn (b / 2 ^ x.toNat), h4, bd e1 (bd em (bd e2 (bd e3 (ift c (bd e4 ?_))))), ⟨by rw [List.length_map, rng_length]; omega, bits_sg b n⟩, hh4⟩
    refine bd (rngO_ok (by decide) (by decide) (by show -(2 ^ 60) ≤ n; omega) (by show n < 2 ^ 60; omega)) (bd (forN_flat (h := fun x => [[sgn (b / 2 ^ x.toNat)]]) (fun _ => Nat.le_refl _) (by rw [rng_length]; exact le_big (by show 0 + (n - 0).toNat ≤ 100000; omega)) (fun acc x hx hb => bd (shr_ok (mem_rng.mp hx).1) (bd (sgn_at _) (bd (app_ok hb) rfl)))) ?_)
    rw [List.nil_append, flat_sing]
    exact bd (sJoin_sing _ (by rw [rng_length]; omega)) rfl
  · have c' : (decide (kd = 3) || decide ((R.length : Int) = 0)) = false := by simpa using c
    have hne : (R.length : Int) ≠ 0 := by
      intro z
      rw [decide_eq_true z, Bool.or_true] at c'
      cases c'
    obtain ⟨b, h4, e4, b0, b1, hh4⟩ := pick_ok hh3 (n := (R.length : Int)) (by omega) (by omega)
    obtain ⟨p, ep, mp⟩ := at_mem (xs := R) b0 b1
    have hp := hR p mp
    obtain ⟨f, h5, e5, f0, f1, hh5⟩ := pick_ok hh4 (n := (p.length : Int)) (by have := hp.1; omega) (by have := hp.2.1; omega)
    have es := shown_ok hp (h := f) (n := n) n0 (by omega)
    have hs := sh_sg hp f n
    have ls := sh_len p f n
    by_cases c2 : (decide (kd = 2) && decide ((0 : Int) < n)) = true
    · have hn : 0 < n := by
        rw [Bool.and_eq_true] at c2
        exact of_decide_eq_true c2.2
      obtain ⟨i, h6, e6, i0, i1, hh6⟩ := pick_ok hh5 (n := n) (by omega) (by omega)
      obtain ⟨t, et, ht, lt⟩ := changed_ok (s := sh p f n) (i := i) hs (by omega) i0 (by omega)
      exact ⟨t, h6, bd e1 (bd em (bd e2 (bd e3 (iff' c' (bd e4 (bd ep (bd (sLen_ok (by have := hp.2.1; omega)) (bd e5 (bd es (ift c2 (bd e6 (bd et rfl)))))))))))), ⟨by omega, ht⟩, hh6⟩
    · exact ⟨sh p f n, h5, bd e1 (bd em (bd e2 (bd e3 (iff' c' (bd e4 (bd ep (bd (sLen_ok (by have := hp.2.1; omega)) (bd e5 (bd es (iff' (by simpa using c2) rfl)))))))))), ⟨by omega, hs⟩, hh5⟩
theorem init_ok {p : List Nat} (hp : Pat p) {a b : Int} (a0 : 0 ≤ a) (a1 : a < 12) (b0 : 0 ≤ b) (b1 : b < 4) : m_Light_init a p b = some (a, p, b) := by
  have hl : p.length ≤ 100000 := by have := hp.2.1; omega
  have hpat : m_is_pattern p = some true := by
    unfold m_is_pattern
    refine bd (sLen_ok hl) (bd (x := false) (iff' (decide_eq_false (by have := hp.1; omega)) (bd (sLen_ok hl) (by rw [decide_eq_false (by have := hp.2.1; omega)]))) (iff' rfl ?_))
    refine bd (forN_flat (h := fun _ => ([] : List (List Nat))) (fun _ => Nat.zero_le _) (by unfold signs; rw [List.length_map]; exact le_big (by show 0 + p.length ≤ 100000; omega)) (fun acc x hx hb => ?_)) ?_
    · unfold signs at hx
      obtain ⟨c, hc, rfl⟩ := List.mem_map.mp hx
      rw [List.append_nil]
      rcases hp.2.2 c hc with rfl | rfl <;> rfl
    · have e : (signs p).flatMap (fun _ => ([] : List (List Nat))) = [] := by rw [List.flatMap_eq_nil_iff]; exact fun _ _ => rfl
      rw [List.nil_append, e]
      rfl
  unfold m_Light_init
  refine iff' ?_ (bd hpat (iff' rfl (iff' ?_ rfl)))
  · rw [decide_eq_false (show ¬ a < 0 by omega), decide_eq_false (show ¬ 11 < a by omega)]; rfl
  · rw [decide_eq_false (show ¬ b < 0 by omega), decide_eq_false (show ¬ 3 < b by omega)]; rfl
theorem made_ok : ∀ (R : List (List Nat)) (h : List Int) (L : List Lt), Hd h → (∀ p ∈ R, Pat p) → L.length + R.length ≤ 100 → ∃ L' h', forN m_law_b1 (L, h) R = some (L ++ L', h') ∧ L'.map (fun l => l.2.1) = R ∧ Hd h'
  | [], h, L, hh, _, _ => ⟨[], h, by rw [List.append_nil]; rfl, rfl, hh⟩
  | p :: R, h, L, hh, hR, hl => by
    rw [List.length_cons] at hl
    obtain ⟨a, h1, e1, a0, a1, hh1⟩ := pick_ok hh (n := 12) (by decide) (by decide)
    obtain ⟨b, h2, e2, b0, b1, hh2⟩ := pick_ok hh1 (n := 4) (by decide) (by decide)
    obtain ⟨L', h3, e3, m3, hh3⟩ := made_ok R h2 (L ++ [(a, p, b)]) hh2 (fun q hq => hR q (List.mem_cons_of_mem _ hq)) (by rw [List.length_append]; show L.length + 1 + R.length ≤ 100; omega)
    refine ⟨(a, p, b) :: L', h3, bd (x := (L ++ [(a, p, b)], h2)) (bd e1 (bd e2 (bd (init_ok (hR p (List.mem_cons_self ..)) a0 a1 b0 b1) (bd (app_ok (xs := L) (lt_big (by omega))) rfl)))) ?_, ?_, hh3⟩
    · rw [e3, List.append_assoc]; rfl
    · rw [List.map_cons, m3]
theorem law_true (s : List Int) (hs : s.length ≤ 63) : m_law s = some true := by
  unfold m_law
  obtain ⟨h0, e0, hh0⟩ := hand_ok s 0 (by decide)
  obtain ⟨n, h1, e1, n0, n1, hh1⟩ := pick_ok hh0 (n := 9) (by decide) (by decide)
  obtain ⟨R, h2, e2, hR, lR, _⟩ := patterns_ok hh1 (n := n) n0 (by omega)
  obtain ⟨h3, e3, hh3⟩ := hand_ok s 1 (by decide)
  obtain ⟨L, h4, e4, mL, _⟩ := made_ok R h3 [] hh3 hR (by show 0 + R.length ≤ 100; omega)
  rw [List.nil_append] at e4
  obtain ⟨h5, e5, hh5⟩ := hand_ok s 2 (by decide)
  obtain ⟨w1, h6, e6, hw1, hh6⟩ := word_ok hh5 hR (by omega)
  obtain ⟨w2, h7, e7, hw2, hh7⟩ := word_ok hh6 hR (by omega)
  have lL : L.length = R.length := by rw [← mL, List.length_map]
  have hL : ∀ l ∈ L, Pat l.2.1 := fun l hl => hR _ (by rw [← mL]; exact List.mem_map.mpr ⟨l, hl, rfl⟩)
  have rds : ∀ {w}, Wd w → m_l_reads L R w = some true := fun {w} hw => by
    have := reads_ok hw hL (by omega)
    rw [mL] at this; exact this
  refine bd e0 (bd e1 (bd e2 (bd e3 (bd e4 (bd e5 (bd e6 (bd e7 (bd rfl (bd rfl (bd rfl ?_))))))))))
  refine bd (forR_all fun w hw => ?_) ?_
  · have hw' : Wd w := by
      simp only [List.mem_cons, List.not_mem_nil, or_false] at hw
      rcases hw with rfl | rfl | rfl <;> assumption
    exact bd (rds hw') rfl
  show Option.bind _ _ = some true
  have j1 : ∃ (h : List Int) (L2 : List Lt), (if decide ((0 : Int) < (R.length : Int)) = true then ((m_l_pick h7 (R.length : Int)).bind fun q135 => (guardO (decide (R.length ≤ big))).bind fun z138 => (popAt R q135.1).bind fun x139 => (guardO (decide (L.length ≤ big))).bind fun z144 => (popAt L q135.1).bind fun x145 =>
      some (q135.2, x139.2, x145.2)) else (some (h7, R, L)) : Option ((List Int) × (List (List Nat)) × (List Lt))) = some (h, L2.map (fun l => l.2.1), L2) ∧ Hd h ∧ (∀ l ∈ L2, Pat l.2.1) ∧ L2.length ≤ 8 := by
    by_cases c : (0 : Int) < (R.length : Int)
    · obtain ⟨i, h8, e8, i0, i1, hh8⟩ := pick_ok hh7 (n := (R.length : Int)) (by omega) (by omega)
      obtain ⟨v, ev⟩ := popAt_ok (xs := R) i0 i1
      obtain ⟨u, eu⟩ := popAt_ok (xs := L) (i := i) i0 (by omega)
      refine ⟨h8, L.eraseIdx i.toNat, ift (decide_eq_true c) (bd e8 (bd (guard_ok (decide_eq_true (le_big (by omega)))) (bd ev (bd (guard_ok (decide_eq_true (le_big (by omega)))) (bd eu ?_))))), hh8, fun l hl => hL l (List.mem_of_mem_eraseIdx hl), ?_⟩
      · rw [← mL, map_erase]
      · have := List.length_eraseIdx_le L i.toNat
        omega
    · exact ⟨h7, L, iff' (decide_eq_false c) (by rw [mL]), hh7, hL, by omega⟩
  obtain ⟨h8, L2, ej, hh8, hL2, lL2⟩ := j1
  refine bd ej ?_
  refine bd (x := false) (bd rfl (bd (reads_ok (L := L2) hw1 hL2 (by omega)) (iff' rfl (bd rfl (bd (reads_ok (L := L2) hw2 hL2 (by omega)) rfl))))) (iff' rfl ?_)
  have j2 : ∃ (L3 : List Lt), (if decide ((0 : Int) < ((L2.map fun l => l.2.1).length : Int)) = true then ((m_l_pick h8 ((L2.map fun l => l.2.1).length : Int)).bind fun q167 => (at_ (L2.map fun l => l.2.1) q167.1).bind fun x170 => (app (L2.map fun l => l.2.1) x170).bind fun x174 => (at_ L2 q167.1).bind fun x177 => (app L2 x177).bind fun x181 =>
      some (x174, x181)) else (some (L2.map (fun l => l.2.1), L2)) : Option ((List (List Nat)) × (List Lt))) = some (L3.map (fun l => l.2.1), L3) ∧ (∀ l ∈ L3, Pat l.2.1) ∧ L3.length ≤ 9 := by
    by_cases c : (0 : Int) < ((L2.map fun l => l.2.1).length : Int)
    · obtain ⟨i, h9, e9, i0, i1, hh9⟩ := pick_ok hh8 (n := ((L2.map fun l => l.2.1).length : Int)) (by omega) (by rw [List.length_map]; omega)
      rw [List.length_map] at i1
      obtain ⟨u, eu, gu⟩ := at_some (xs := L2) i0 i1
      have ev : at_ (L2.map fun l => l.2.1) i = some u.2.1 := at_int i0 (by rw [List.getElem?_map, gu]; rfl)
      refine ⟨L2 ++ [u], ift (decide_eq_true c) (bd e9 (bd ev (bd (app_ok (lt_big (by rw [List.length_map]; omega))) (bd eu (bd (app_ok (lt_big (by omega))) ?_))))), fun l hl => ?_, by rw [List.length_append]; show L2.length + 1 ≤ 9; omega⟩
      · rw [List.map_append]; rfl
      · rcases List.mem_append.mp hl with hl | hl
        · exact hL2 l hl
        · obtain rfl := List.mem_singleton.mp hl
          exact hL2 _ (List.mem_of_getElem? gu)
    · exact ⟨L2, iff' (decide_eq_false c) rfl, hL2, by omega⟩
  obtain ⟨L3, ej2, hL3, lL3⟩ := j2
  refine bd ej2 ?_
  exact bd (x := true) (bd rfl (bd (reads_ok (L := L3) hw2 hL3 (by omega)) (ift rfl (bd rfl (bd (reads_ok (L := L3) hw1 hL3 (by omega)) rfl))))) rfl

end Mi
namespace G
open PySem PySem.Spec PyProof.Rows L2
/-! ### what never changes, and how a heap changes -/
/-- the attribute that an __init__ sets last: an instance with it is whole and stays as it is -/
def lastF : List Str := ["joined", "fuel", "reach", "inside", "hops", "letters", "hours"]
def done (fs : List (Str × V)) : Bool := fs.any fun p => lastF.any fun q => decide (q = p.1)
def Froz : HO → Prop
  | .tup _ => True
  | .ins _ _ fs => done fs = true
  | .own _ => True
  | .frz _ _ => True
  | _ => False
structure Chg (M : List Addr) (H H' : Hp) : Prop where
  keep : ∀ b o, H b = some o → (b ∉ M ∨ Froz o) → H' b = some o
  dom : ∀ b, H' b = none → H b = none
theorem Chg.refl {M : List Addr} (H : Hp) : Chg M H H := ⟨fun _ _ h _ => h, fun _ h => h⟩
theorem Chg.trans {M : List Addr} {H H1 H2 : Hp} (a : Chg M H H1) (b : Chg M H1 H2) : Chg M H H2 :=
  ⟨fun x o h d => b.keep x o (a.keep x o h d) d, fun x h => a.dom x (b.dom x h)⟩
theorem Chg.mono {M N : List Addr} {H H' : Hp} (a : Chg M H H') (s : ∀ x ∈ M, x ∈ N) : Chg N H H' :=
  ⟨fun b o h d => a.keep b o h (d.imp (fun z y => z (s b y)) id), a.dom⟩
theorem Chg.none {M : List Addr} {H H' : Hp} (a : Chg [] H H') : Chg M H H' := a.mono (fun x h => nomatch h)
theorem Chg.new {M : List Addr} {H : Hp} {p : Addr} {o : HO} (np : H p = .none) : Chg M H (upd H p o) :=
  ⟨fun b u h _ => by rw [upd_ne (ne_of_none h np)]; exact h, fun b h => by
    by_cases e : b = p
    · subst e; exact np
    · rw [upd_ne e] at h; exact h⟩
theorem Chg.wr {H : Hp} {p : Addr} {o u : HO} (hp : H p = some u) (nf : ¬ Froz u) : Chg [p] H (upd H p o) :=
  ⟨fun b w h d => by
    have e : b ≠ p := by
      intro e; subst e
      rw [hp] at h; cases h
      rcases d with d | d
      · exact d (List.mem_singleton.mpr rfl)
      · exact nf d
    rw [upd_ne e]; exact h, fun b h => by
    by_cases e : b = p
    · subst e; rw [upd_same] at h; cases h
    · rw [upd_ne e] at h; exact h⟩
/-- what was made behind H0 may change -/
theorem Chg.loc {M N : List Addr} {H0 H H' : Hp} (a : Chg M H0 H) (b : Chg N H H') (fr : ∀ x ∈ N, H0 x = .none) : Chg M H0 H' :=
  ⟨fun x o h d => b.keep x o (a.keep x o h d) (.inl (fun z => by rw [fr x z] at h; cases h)), fun x h => a.dom x (b.dom x h)⟩
/-- the part N of M, and what was made behind H0, may change -/
theorem Chg.join {M N : List Addr} {H0 H H' : Hp} (a : Chg M H0 H) (b : Chg N H H') (fr : ∀ x ∈ N, x ∈ M ∨ H0 x = .none) : Chg M H0 H' :=
  ⟨fun x o h d => b.keep x o (a.keep x o h d) (by
    rcases d with d | d
    · refine .inl (fun z => ?_)
      rcases fr x z with y | y
      · exact d y
      · rw [y] at h; cases h
    · exact .inr d), fun x h => a.dom x (b.dom x h)⟩
theorem Chg.free {M : List Addr} {H H' : Hp} (a : Chg M H H') {p : Addr} (np : H' p = .none) : H p = .none := a.dom p np
/-! ### kinds of data -/
structure Ty (α : Type) where
  rep : PySem.W.Frag → Hp → List Addr → V → α → Prop
  keep : ∀ {K : PySem.W.Frag} {H H' : Hp} {F : List Addr} {v : V} {d : α}, rep K H F v d → (∀ b o, H b = some o → (b ∈ F ∨ Froz o) → H' b = some o) → rep K H' F v d
  dom : ∀ {K : PySem.W.Frag} {H : Hp} {F : List Addr} {v : V} {d : α}, rep K H F v d → ∀ b ∈ F, ∃ o, H b = some o ∧ ¬ Froz o
/-- a and b have nothing in common -/
def Dj (F G : List Addr) : Prop := ∀ a ∈ F, a ∉ G
theorem Dj.symm {F G : List Addr} (d : Dj F G) : Dj G F := fun a h z => d a z h
theorem Dj.nil {F : List Addr} : Dj [] F := fun a h => nomatch h
theorem Dj.nilR {F : List Addr} : Dj F [] := fun a h z => nomatch z
section
variable {α β : Type} {τ : Ty α} {υ : Ty β} {K : PySem.W.Frag} {H H' : Hp} {F G M : List Addr} {v u : V} {d : α} {p : Addr}
theorem Ty.chg (r : τ.rep K H F v d) (c : Chg M H H') (dj : Dj F M) : τ.rep K H' F v d :=
  τ.keep r fun b o h z => c.keep b o h (z.imp (fun y => dj b y) id)
theorem Ty.ex (r : τ.rep K H F v d) (c : Chg [] H H') : τ.rep K H' F v d := Ty.chg r c Dj.nilR
theorem Ty.fz (r : τ.rep K H [] v d) (c : Chg M H H') : τ.rep K H' [] v d := Ty.chg r c Dj.nil
theorem Ty.nin (r : τ.rep K H F v d) (np : H p = none) : Dj F [p] := fun a h z => by
  rw [List.mem_singleton] at z; subst z
  obtain ⟨o, e, _⟩ := τ.dom r a h
  rw [np] at e; cases e
theorem Ty.fresh (r : τ.rep K H F v d) (np : ∀ a ∈ G, H a = none) : Dj F G := fun a h z => by
  obtain ⟨o, e, _⟩ := τ.dom r a h
  rw [np a z] at e; cases e
end
theorem one_fresh {H : Hp} {p : Addr} (np : H p = none) : ∀ a ∈ [p], H a = none := fun a h => by
  rw [List.mem_singleton] at h; subst h; exact np
/-! ### flat data -/
def yInt : Ty Int := ⟨fun _ _ F v d => F = [] ∧ v = .int d, fun h _ => h, fun h b m => by rw [h.1] at m; cases m⟩
def yBool : Ty Bool := ⟨fun _ _ F v d => F = [] ∧ v = .bl d, fun h _ => h, fun h b m => by rw [h.1] at m; cases m⟩
def toS (l : List Nat) : Str := ⟨l.toArray⟩
def yStr : Ty (List Nat) := ⟨fun _ _ F v d => F = [] ∧ v = .str (toS d), fun h _ => h, fun h b m => by rw [h.1] at m; cases m⟩
def yNon : Ty Unit := ⟨fun _ _ F v _ => F = [] ∧ v = .non, fun h _ => h, fun h b m => by rw [h.1] at m; cases m⟩
theorem yInt_i {K : PySem.W.Frag} {H : Hp} {i : Int} : yInt.rep K H [] (.int i) i := ⟨rfl, rfl⟩
theorem yBool_i {K : PySem.W.Frag} {H : Hp} {i : Bool} : yBool.rep K H [] (.bl i) i := ⟨rfl, rfl⟩
theorem yStr_i {K : PySem.W.Frag} {H : Hp} {i : List Nat} : yStr.rep K H [] (.str (toS i)) i := ⟨rfl, rfl⟩
theorem yNon_i {K : PySem.W.Frag} {H : Hp} : yNon.rep K H [] .non () := ⟨rfl, rfl⟩
/-- None or data -/
def yOpt {α : Type} (τ : Ty α) : Ty (Option α) where
  rep K H F v d := match d with
    | none => F = [] ∧ v = .non
    | some x => v ≠ .non ∧ τ.rep K H F v x
  keep {K H H' F v d} h k := by
    cases d with
    | none => exact h
    | some x => exact ⟨h.1, τ.keep h.2 k⟩
  dom {K H F v d} h b m := by
    cases d with
    | none => rw [h.1] at m; cases m
    | some x => exact τ.dom h.2 b m
/-- a list whose items never change -/
def yLst {α : Type} (τ : Ty α) : Ty (List α) where
  rep K H F v xs := ∃ a vs, v = .ref a ∧ F = [a] ∧ H a = some (.lst vs) ∧ Paired (fun u x => τ.rep K H [] u x) vs xs
  keep {K H H' F v xs} h k := by
    obtain ⟨a, vs, e, f, g, r⟩ := h
    subst f
    exact ⟨a, vs, e, rfl, k a _ g (.inl (List.mem_singleton.mpr rfl)), Paired.mapP r fun u x q => τ.keep q fun b o hb z => k b o hb (z.elim (fun y => nomatch y) .inr)⟩
  dom {K H F v xs} h b m := by
    obtain ⟨a, vs, e, f, g, r⟩ := h
    subst f
    rw [List.mem_singleton] at m; subst m
    exact ⟨_, g, fun z => z⟩
theorem SqT.keeps {K : PySem.W.Frag} {H H' : Hp} {a : Addr} {vs : List V} (s : SqT K H a vs) (k : ∀ b o, H b = some o → Froz o → H' b = some o) : SqT K H' a vs := by
  rcases s with (s | ⟨o, s⟩) | s
  · exact .inl (.inl (k _ _ s trivial))
  · exact .inl (.inr ⟨o, k _ _ s trivial⟩)
  · exact .inr s
/-- the items of a tuple -/
structure Tys (α : Type) where
  rep : PySem.W.Frag → Hp → List Addr → List V → α → Prop
  keep : ∀ {K : PySem.W.Frag} {H H' : Hp} {F : List Addr} {v : List V} {d : α}, rep K H F v d → (∀ b o, H b = some o → (b ∈ F ∨ Froz o) → H' b = some o) → rep K H' F v d
  dom : ∀ {K : PySem.W.Frag} {H : Hp} {F : List Addr} {v : List V} {d : α}, rep K H F v d → ∀ b ∈ F, ∃ o, H b = some o ∧ ¬ Froz o
def sOne {α : Type} (τ : Ty α) : Tys α where
  rep K H F vs x := ∃ v, vs = [v] ∧ τ.rep K H F v x
  keep h k := by obtain ⟨v, e, r⟩ := h; exact ⟨v, e, τ.keep r k⟩
  dom h b m := by obtain ⟨v, e, r⟩ := h; exact τ.dom r b m
def sCons {α β : Type} (τ : Ty α) (ts : Tys β) : Tys (α × β) where
  rep K H F vs x := ∃ v ws F1 F2, vs = v :: ws ∧ F = F1 ++ F2 ∧ τ.rep K H F1 v x.1 ∧ ts.rep K H F2 ws x.2
  keep {K H H' F v d} h k := by
    obtain ⟨v, ws, F1, F2, e, f, r, q⟩ := h
    subst f
    exact ⟨v, ws, F1, F2, e, rfl, τ.keep r fun b o hb z => k b o hb (z.imp (fun y => List.mem_append_left _ y) id), ts.keep q fun b o hb z => k b o hb (z.imp (fun y => List.mem_append_right _ y) id)⟩
  dom {K H F v d} h b m := by
    obtain ⟨v, ws, F1, F2, e, f, r, q⟩ := h
    subst f
    rcases List.mem_append.mp m with m | m
    · exact τ.dom r b m
    · exact ts.dom q b m
def yTup {α : Type} (ts : Tys α) : Ty α where
  rep K H F v d := ∃ a vs, v = .ref a ∧ SqT K H a vs ∧ ts.rep K H F vs d
  keep h k := by
    obtain ⟨a, vs, e, s, r⟩ := h
    exact ⟨a, vs, e, SqT.keeps s fun b o hb z => k b o hb (.inr z), ts.keep r k⟩
  dom h b m := by obtain ⟨a, vs, e, s, r⟩ := h; exact ts.dom r b m
/-- a tuple of any number of things of one kind that never change -/
def yTupL {α : Type} (τ : Ty α) : Ty (List α) where
  rep K H F v xs := ∃ a vs, v = .ref a ∧ F = [] ∧ SqT K H a vs ∧ Paired (fun u x => τ.rep K H [] u x) vs xs
  keep {K H H' F v xs} h k := by
    obtain ⟨a, vs, e, f, g, r⟩ := h
    exact ⟨a, vs, e, f, SqT.keeps g fun b o hb z => k b o hb (.inr z), Paired.mapP r fun u x q => τ.keep q fun b o hb z => k b o hb (z.elim (fun y => nomatch y) .inr)⟩
  dom {K H F v xs} h b m := by
    obtain ⟨a, vs, e, f, g, r⟩ := h
    rw [f] at m; cases m
/-- the script -/
def yScr : Ty (List Int) where
  rep K H F v xs := F = [] ∧ ∃ a, v = .ref a ∧ ∀ H', (∀ b o, H b = some o → Froz o → H' b = some o) → SqL K H' a (xs.map V.int)
  keep {K H H' F v xs} h k := by
    obtain ⟨f, a, e, g⟩ := h
    exact ⟨f, a, e, fun H2 k2 => g H2 fun b o hb z => k2 b o (k b o hb (.inr z)) z⟩
  dom {K H F v xs} h b m := by
    rw [h.1] at m; cases m
theorem yScr_of {K : PySem.W.Frag} {H : Hp} {a : Addr} {ns : List Int} (o : Only H) (s : SqL K H a (ns.map V.int)) : yScr.rep K H [] (.ref a) ns := by
  refine ⟨rfl, a, rfl, fun H' k => ?_⟩
  rcases s with (s | ⟨ob, s⟩) | s
  · rcases o a with z | ⟨_, _, z⟩
    · rw [z] at s; cases s
    · rw [z] at s; cases s
  · exact .inl (.inr ⟨ob, k _ _ s trivial⟩)
  · exact .inr s
end G

namespace G
open PySem PySem.Spec PyProof.Rows L2
theorem at_eq {α : Type} (xs : List α) (i : Int) : L2.atI xs i = Mi.at_ xs i := rfl
theorem ixN_eq (n : Nat) (i : Int) : L2.ixN n i = Mi.ixN n i := rfl
theorem line_big : Mi.big ≤ sizeLine := by rw [sizeLine_eq]; decide
section paired
variable {α β γ : Type} {R : α → β → Prop}
theorem pr_len {xs : List α} {ys : List β} (r : Paired R xs ys) : xs.length = ys.length := Paired.length r
theorem pr_get : ∀ {xs : List α} {ys : List β} {j : Nat} {y : β}, Paired R xs ys → ys[j]? = some y → ∃ x, xs[j]? = some x ∧ R x y
  | _, _, _, _, .nil, e => by simp at e
  | _, _, 0, _, .cons r _, e => by simp at e; subst e; exact ⟨_, rfl, r⟩
  | _, _, j + 1, y, .cons _ t, e => by
    obtain ⟨u, h1, h2⟩ := pr_get (j := j) (y := y) t (by simpa using e)
    exact ⟨u, by simpa using h1, h2⟩
theorem pr_getL : ∀ {xs : List α} {ys : List β} {j : Nat} {x : α}, Paired R xs ys → xs[j]? = some x → ∃ y, ys[j]? = some y ∧ R x y
  | _, _, _, _, .nil, e => by simp at e
  | _, _, 0, _, .cons r _, e => by simp at e; subst e; exact ⟨_, rfl, r⟩
  | _, _, j + 1, y, .cons _ t, e => by
    obtain ⟨u, h1, h2⟩ := pr_getL (j := j) (x := y) t (by simpa using e)
    exact ⟨u, by simpa using h1, h2⟩
theorem pr_set {x : α} {y : β} (r : R x y) : ∀ {xs : List α} {ys : List β} (i : Nat), Paired R xs ys → Paired R (xs.set i x) (ys.set i y)
  | _, _, _, .nil => .nil
  | _, _, 0, .cons _ t => .cons r t
  | _, _, i + 1, .cons q t => .cons q (pr_set r i t)
theorem pr_app : ∀ {xs zs : List α} {ys ws : List β}, Paired R xs ys → Paired R zs ws → Paired R (xs ++ zs) (ys ++ ws)
  | _, _, _, _, .nil, s => s
  | _, _, _, _, .cons r t, s => .cons r (pr_app t s)
theorem pr_take : ∀ {xs : List α} {ys : List β} (n : Nat), Paired R xs ys → Paired R (xs.take n) (ys.take n)
  | _, _, 0, _ => .nil
  | _, _, _ + 1, .nil => .nil
  | _, _, n + 1, .cons r t => .cons r (pr_take n t)
theorem pr_drop : ∀ {xs : List α} {ys : List β} (n : Nat), Paired R xs ys → Paired R (xs.drop n) (ys.drop n)
  | _, _, 0, r => r
  | _, _, _ + 1, .nil => .nil
  | _, _, n + 1, .cons _ t => pr_drop n t
theorem pr_at {xs : List α} {ys : List β} {i : Int} {y : β} (r : Paired R xs ys) (h : Mi.at_ ys i = some y) : ∃ x, L2.atI xs i = some x ∧ R x y := by
  rw [at_eq]
  unfold Mi.at_ at h ⊢
  rw [pr_len r]
  obtain ⟨j, e, h⟩ := Mi.bnd h
  obtain ⟨x, e2, q⟩ := pr_get r h
  exact ⟨x, by rw [e]; exact e2, q⟩
theorem pr_map (f : β → α) (h : ∀ b, R (f b) b) : ∀ ys : List β, Paired R (ys.map f) ys
  | [] => .nil
  | y :: ys => .cons (h y) (pr_map f h ys)
theorem pr_of_map (f : β → α) (h : ∀ a b, R a b → a = f b) : ∀ {xs : List α} {ys : List β}, Paired R xs ys → xs = ys.map f
  | _, _, .nil => rfl
  | _, _, .cons r t => by rw [h _ _ r, pr_of_map f h t]; rfl
end paired
theorem ints_of {K : PySem.W.Frag} {H : Hp} {vs : List V} {ns : List Int} (r : Paired (fun u x => yInt.rep K H [] u x) vs ns) : vs = ns.map V.int := pr_of_map V.int (fun _ _ q => q.2) r
theorem ints_mk {K : PySem.W.Frag} {H : Hp} (ns : List Int) : Paired (fun u x => yInt.rep K H [] u x) (ns.map V.int) ns := pr_map V.int (fun _ => ⟨rfl, rfl⟩) ns
/-! ### values without a change of the heap -/
section vals
variable {K : PySem.W.Frag} {σ : L2.St} {H : Hp} {F : List Addr} {ta tb te : TE} {v u x y : V} {i j : Int} {t : TT} {b c : Bool} {α β : Type} {τ : Ty α}
theorem val_I0 {g : Int → Int → V} (ha : Val ta σ H (.int i)) (hb : Val tb σ H (.int j)) : Val (tOp (rI0 g) ta tb) σ H (g i j) := val_op ha hb fun Q q => ⟨i, j, rfl, rfl, q⟩
theorem val_I {C : Int → Int → Prop} {g : Int → Int → V} (ha : Val ta σ H (.int i)) (hb : Val tb σ H (.int j)) (hc : C i j) : Val (tOp (rI C g) ta tb) σ H (g i j) := val_op ha hb fun Q q => ⟨i, j, rfl, rfl, hc, q⟩
theorem val_U {g : Int → V} (ha : Val ta σ H (.int i)) : Val (tUn (rU g) ta) σ H (g i) := fun Q q => ha _ ⟨i, rfl, q⟩
theorem dI {i j : Int} : decide (V.int i = V.int j) = decide (i = j) := by
  by_cases e : i = j
  · subst e; simp
  · rw [decide_eq_false e, decide_eq_false (fun q => e (V.int.inj q))]
theorem dB {i j : Bool} : decide (V.bl i = V.bl j) = decide (i = j) := by
  by_cases e : i = j
  · subst e; simp
  · rw [decide_eq_false e, decide_eq_false (fun q => e (V.bl.inj q))]
theorem dS {i j : Str} : decide (V.str i = V.str j) = decide (i = j) := by
  by_cases e : i = j
  · subst e; simp
  · rw [decide_eq_false e, decide_eq_false (fun q => e (V.str.inj q))]
theorem val_eqI (ha : Val ta σ H (.int i)) (hb : Val tb σ H (.int j)) : Val (tOp rEq ta tb) σ H (.bl (decide (i = j))) := val_op ha hb fun Q q => ⟨rfl, by rw [dI]; exact q⟩
theorem val_neI (ha : Val ta σ H (.int i)) (hb : Val tb σ H (.int j)) : Val (tOp rNe ta tb) σ H (.bl (!decide (i = j))) := val_op ha hb fun Q q => ⟨rfl, by rw [dI]; exact q⟩
theorem val_eqB (ha : Val ta σ H (.bl b)) (hb : Val tb σ H (.bl c)) : Val (tOp rEq ta tb) σ H (.bl (decide (b = c))) := val_op ha hb fun Q q => ⟨rfl, by rw [dB]; exact q⟩
theorem val_neB (ha : Val ta σ H (.bl b)) (hb : Val tb σ H (.bl c)) : Val (tOp rNe ta tb) σ H (.bl (!decide (b = c))) := val_op ha hb fun Q q => ⟨rfl, by rw [dB]; exact q⟩
theorem val_is {w : V} (h : Val te σ H v) (e : v = w) : Val te σ H w := e ▸ h
theorem ans_is (h : Ans t σ H b) (e : b = c) : Ans t σ H c := e ▸ h
theorem mulC {i j r : Int} (h : Mi.mul i j = some r) : CMul i j ∧ i * j = r := by
  unfold Mi.mul at h
  split at h
  · exact ⟨by assumption, Option.some.inj h⟩
  · cases h
theorem modC {i j r : Int} (h : Mi.mod i j = some r) : 0 < j ∧ i % j = r := by
  unfold Mi.mod at h
  split at h
  · exact ⟨by assumption, Option.some.inj h⟩
  · cases h
theorem divC {i j r : Int} (h : Mi.fdiv i j = some r) : CDivW i j ∧ i / j = r := by
  unfold Mi.fdiv at h
  split at h
  · rename_i hc
    refine ⟨wide_div (b := 200) hc.1 ?_ (by decide) (by decide), Option.some.inj h⟩
    omega
  · cases h
theorem val_mul {r : Int} (ha : Val ta σ H (.int i)) (hb : Val tb σ H (.int j)) (h : Mi.mul i j = some r) : Val (tOp (rI CMul fun i j => .int (i * j)) ta tb) σ H (.int r) := val_is (val_I ha hb (mulC h).1) (by rw [(mulC h).2])
theorem val_mod {r : Int} (ha : Val ta σ H (.int i)) (hb : Val tb σ H (.int j)) (h : Mi.mod i j = some r) : Val (tOp (rI (fun _ j => 0 < j) fun i j => .int (i % j)) ta tb) σ H (.int r) := val_is (val_I ha hb (modC h).1) (by rw [(modC h).2])
theorem val_fdiv {r : Int} (ha : Val ta σ H (.int i)) (hb : Val tb σ H (.int j)) (h : Mi.fdiv i j = some r) : Val (tOp (rI CDivW fun i j => .int (i / j)) ta tb) σ H (.int r) := val_is (val_I ha hb (divC h).1) (by rw [(divC h).2])
theorem ans_t (h : Val te σ H (.bl b)) : Ans (tTest te) σ H b := fun Q q => h _ ⟨b, rfl, q⟩
/-- int(n) -/
def rInt1 : List V → Hp → VK → Prop := fun xs H Q => (∃ i, xs = [.int i] ∧ Q (.int i) H) ∨ ∃ k, xs = [.bl k] ∧ Q (.int (if k then 1 else 0)) H
theorem cl_int {X : Cx} : CallR X (.type "int") rInt1 := call_int1
theorem val_int (ha : Val ta σ H (.int i)) : Val (tCB rInt1 (tCons ta tNil)) σ H (.int i) := fun Q q => ha _ (.inl ⟨i, rfl, q⟩)
def rMax2 : List V → Hp → VK → Prop := fun xs H Q => ∃ i j, xs = [.int i, .int j] ∧ Q (.int (if j > i then j else i)) H
def rMin2 : List V → Hp → VK → Prop := fun xs H Q => ∃ i j, xs = [.int i, .int j] ∧ Q (.int (if j < i then j else i)) H
theorem cl_max2 {X : Cx} (hc : X.calm = true) : CallR X (.builtin "max") rMax2 := call_max2 hc
theorem cl_min2 {X : Cx} (hc : X.calm = true) : CallR X (.builtin "min") rMin2 := call_min2 hc
theorem val_max2 (ha : Val ta σ H (.int i)) (hb : Val tb σ H (.int j)) : Val (tCB rMax2 (tCons ta (tCons tb tNil))) σ H (.int (max i j)) := fun Q q => ha _ (hb _ ⟨i, j, rfl, by
  have e : (if j > i then j else i) = max i j := by split <;> omega
  rw [e]; exact q⟩)
theorem val_min2 (ha : Val ta σ H (.int i)) (hb : Val tb σ H (.int j)) : Val (tCB rMin2 (tCons ta (tCons tb tNil))) σ H (.int (min i j)) := fun Q q => ha _ (hb _ ⟨i, j, rfl, by
  have e : (if j < i then j else i) = min i j := by split <;> omega
  rw [e]; exact q⟩)
/-- len of a list or tuple -/
def rLenQ (K : PySem.W.Frag) : List V → Hp → VK → Prop := fun xs H Q => ∃ p ys, xs = [.ref p] ∧ (SqL K H p ys ∨ SqT K H p ys) ∧ Q (.int ys.length) H
theorem cl_len {X : Cx} {K : PySem.W.Frag} (e : X.K = K := by rfl) : CallR X (.builtin "len") (rLenQ K) := by subst e; exact call_len_seq
theorem lst_sq {xs : List α} (r : (yLst τ).rep K H F v xs) : ∃ a vs, v = .ref a ∧ SqL K H a vs ∧ Paired (fun u x => τ.rep K H [] u x) vs xs := by
  obtain ⟨a, vs, e, f, g, q⟩ := r
  exact ⟨a, vs, e, .inl (.inl g), q⟩
theorem tupl_sq {xs : List α} (r : (yTupL τ).rep K H F v xs) : ∃ a vs, v = .ref a ∧ SqT K H a vs ∧ Paired (fun u x => τ.rep K H [] u x) vs xs := by
  obtain ⟨a, vs, e, f, g, q⟩ := r
  exact ⟨a, vs, e, g, q⟩
theorem scr_sq {xs : List Int} (r : yScr.rep K H F v xs) : ∃ a vs, v = .ref a ∧ SqL K H a vs ∧ Paired (fun u x => yInt.rep K H [] u x) vs xs := by
  obtain ⟨f, a, e, g⟩ := r
  exact ⟨a, _, e, g H fun _ _ h _ => h, ints_mk xs⟩
theorem val_lenL {xs : List α} (r : (yLst τ).rep K H F v xs) (ha : Val ta σ H v) : Val (tCB (rLenQ K) (tCons ta tNil)) σ H (.int (xs.length : Int)) := by
  obtain ⟨a, vs, e, s, q⟩ := lst_sq r
  subst e
  exact fun Q k => ha _ ⟨a, vs, rfl, .inl s, by rw [pr_len q]; exact k⟩
theorem val_lenT {xs : List α} (r : (yTupL τ).rep K H F v xs) (ha : Val ta σ H v) : Val (tCB (rLenQ K) (tCons ta tNil)) σ H (.int (xs.length : Int)) := by
  obtain ⟨a, vs, e, s, q⟩ := tupl_sq r
  subst e
  exact fun Q k => ha _ ⟨a, vs, rfl, .inr s, by rw [pr_len q]; exact k⟩
theorem val_lenS {xs : List Int} (r : yScr.rep K H F v xs) (ha : Val ta σ H v) : Val (tCB (rLenQ K) (tCons ta tNil)) σ H (.int (xs.length : Int)) := by
  obtain ⟨a, vs, e, s, q⟩ := scr_sq r
  subst e
  exact fun Q k => ha _ ⟨a, vs, rfl, .inl s, by rw [pr_len q]; exact k⟩
/-- items -/
theorem ix_l {X : Cx} {K : PySem.W.Frag} (e : X.K = K := by rfl) : IxR X (rIxL K) := by subst e; exact ix_list
theorem ix_t {X : Cx} {K : PySem.W.Frag} (e : X.K = K := by rfl) : IxR X (rIxT K) := by subst e; exact ix_tup
/-- the item's own value, by its data -/
theorem itm_L {xs : List α} {x : α} (r : (yLst τ).rep K H F v xs) (h : Mi.at_ xs i = some x) :
    ∃ u, τ.rep K H [] u x ∧ ∀ {σ : L2.St} {ta tb : TE}, Val ta σ H v → Val tb σ H (.int i) → Val (tOp (rIxL K) ta tb) σ H u := by
  obtain ⟨a, vs, e, s, q⟩ := lst_sq r
  subst e
  obtain ⟨u, e, ru⟩ := pr_at q h
  exact ⟨u, ru, fun ha hb => val_op ha hb fun Q k => ⟨a, vs, i, u, rfl, rfl, s, e, k⟩⟩
theorem itm_T {xs : List α} {x : α} (r : (yTupL τ).rep K H F v xs) (h : Mi.at_ xs i = some x) :
    ∃ u, τ.rep K H [] u x ∧ ∀ {σ : L2.St} {ta tb : TE}, Val ta σ H v → Val tb σ H (.int i) → Val (tOp (rIxT K) ta tb) σ H u := by
  obtain ⟨a, vs, e, s, q⟩ := tupl_sq r
  subst e
  obtain ⟨u, e, ru⟩ := pr_at q h
  exact ⟨u, ru, fun ha hb => val_op ha hb fun Q k => ⟨a, vs, i, u, rfl, rfl, s, e, k⟩⟩
theorem itm_S {xs : List Int} {x : Int} (r : yScr.rep K H F v xs) (h : Mi.at_ xs i = some x) {σ : L2.St} {ta tb : TE} (ha : Val ta σ H v) (hb : Val tb σ H (.int i)) : Val (tOp (rIxL K) ta tb) σ H (.int x) := by
  obtain ⟨a, vs, e, s, q⟩ := scr_sq r
  subst e
  obtain ⟨u, e, ru⟩ := pr_at q h
  obtain ⟨_, rfl⟩ := ru
  exact val_op ha hb fun Q k => ⟨a, vs, i, _, rfl, rfl, s, e, k⟩
/-- ints in lists -/
theorem itm_LI {xs : List Int} {x : Int} (r : (yLst yInt).rep K H F v xs) (h : Mi.at_ xs i = some x) {σ : L2.St} {ta tb : TE} (ha : Val ta σ H v) (hb : Val tb σ H (.int i)) : Val (tOp (rIxL K) ta tb) σ H (.int x) := by
  obtain ⟨u, ⟨_, rfl⟩, k⟩ := itm_L r h
  exact k ha hb
theorem itm_TI {xs : List Int} {x : Int} (r : (yTupL yInt).rep K H F v xs) (h : Mi.at_ xs i = some x) {σ : L2.St} {ta tb : TE} (ha : Val ta σ H v) (hb : Val tb σ H (.int i)) : Val (tOp (rIxT K) ta tb) σ H (.int x) := by
  obtain ⟨u, ⟨_, rfl⟩, k⟩ := itm_T r h
  exact k ha hb
/-! ### isinstance -/
theorem cl_isi {X : Cx} {K : PySem.W.Frag} (e : X.K = K := by rfl) : CallR X (.builtin "isinstance") (rIsi K) := by subst e; exact call_isi
theorem val_isi {n m : String} {b : Bool} (ha : Val ta σ H v) (ht : TyX K H v (.type n)) (h : kitB n m = some b) : Val (tCB (rIsi K) (tCons ta (tCons (tC (.ty m)) tNil))) σ H (.bl b) := fun Q q =>
  ha _ ⟨v, .ty m, .type n, .type m, b, rfl, .ty m, ht, kit_ty h, q⟩
theorem ty_int : TyX K H (.int i) (.type "int") := .base (.int i)
theorem ty_bl : TyX K H (.bl b) (.type "bool") := .base (.bl b)
theorem ty_str {s : Str} : TyX K H (.str s) (.type "str") := .base (.str s)
theorem ty_non : TyX K H .non (.type "NoneType") := .base .non
theorem ty_lst {xs : List α} (r : (yLst τ).rep K H F v xs) : TyX K H v (.type "list") := by
  obtain ⟨a, vs, rfl, f, g, q⟩ := r
  exact .base (.lst g)
theorem ty_sqt {a : Addr} {vs : List V} (s : SqT K H a vs) : TyX K H (.ref a) (.type "tuple") := by
  rcases s with (s | ⟨o, s⟩) | ⟨o, its, n, e, c, _⟩
  · exact .base (.tup s)
  · exact .fTuple s
  · exact .kTuple e c
theorem ty_tupl {xs : List α} (r : (yTupL τ).rep K H F v xs) : TyX K H v (.type "tuple") := by
  obtain ⟨a, vs, rfl, s, q⟩ := tupl_sq r
  exact ty_sqt s
theorem ty_tup {ts : Tys α} {d : α} (r : (yTup ts).rep K H F v d) : TyX K H v (.type "tuple") := by
  obtain ⟨a, vs, rfl, s, q⟩ := r
  exact ty_sqt s
end vals
/-! ### going on behind an expression -/
section cps
variable {K : PySem.W.Frag} {σ σ' : L2.St} {H : Hp} {F : List Addr} {ta tb te : TE} {v u x y : V} {i j : Int} {t : TT} {b c : Bool} {α β : Type} {τ : Ty α} {Q : VK} {D : Ends} {t1 t2 : TS}
theorem c_val (h : Val te σ H v) (k : Q v H) : te σ H Q := h Q k
theorem c_ans {Q : Bool → Hp → Prop} (h : Ans t σ H b) (k : Q b H) : t σ H Q := h Q k
theorem c_if {A B : Prop} (h1 : b = true → A) (h2 : b = false → B) : if b = true then A else B := by
  cases b with
  | true => exact iteT (h1 rfl)
  | false => exact iteF (h2 rfl)
theorem s_if (h : Ans t σ H b) (h1 : b = true → t1 D σ H) (h2 : b = false → t2 D σ H) : tIfS t t1 t2 D σ H := h _ (c_if h1 h2)
/-- x = e -/
theorem s_set {i : Nat} (h : Val te σ H v) (e : σ.set i (some v) = σ') (k : D.nx σ' H) : tAsg te (gName i) D σ H := h _ (by show D.nx (σ.set i (some v)) H; rw [e]; exact k)
theorem s_setI {i : Nat} {n m : Int} (h : Val te σ H (.int n)) (en : n = m) (e : σ.set i (some (.int m)) = σ') (k : D.nx σ' H) : tAsg te (gName i) D σ H := s_set (v := .int m) (en ▸ h) e k
theorem s_seq (h : t1 { D with nx := t2 D } σ H) : tSeq t1 t2 D σ H := h
/-- a join: R is what holds where the ways come together -/
theorem s_join {R : L2.St → Hp → Prop} (w : ∀ nx : L2.St → Hp → Prop, (∀ σ' H', R σ' H' → nx σ' H') → t1 { D with nx := nx } σ H) (k : ∀ σ' H', R σ' H' → t2 D σ' H') : tSeq t1 t2 D σ H := w _ k
theorem g_name {i : Nat} {Q : L2.St → Hp → Prop} (e : σ.set i (some v) = σ') (k : Q σ' H) : gName i v σ H Q := by show Q (σ.set i (some v)) H; rw [e]; exact k
theorem g_nameI {i : Nat} {n m : Int} {Q : L2.St → Hp → Prop} (en : n = m) (e : σ.set i (some (.int m)) = σ') (k : Q σ' H) : gName i (.int n) σ H Q := g_name (v := .int n) (by rw [en]; exact e) k
/-- a list, a tuple is made -/
theorem sz {n : Nat} (h : n ≤ Mi.big) : n ≤ sizeLine := Nat.le_trans h line_big
theorem c_lst {ts : TA} (h : ts σ H fun xs H1 => xs.length ≤ Mi.big ∧ ∀ p, H1 p = none → Q (.ref p) (upd H1 p (.lst xs))) (mono : ∀ Q Q' : List V → Hp → Prop, (∀ xs H1, Q xs H1 → Q' xs H1) → ts σ H Q → ts σ H Q') : L2.tLst ts σ H Q := mono _ _ (fun xs H1 z => ⟨sz z.1, z.2⟩) h
/-- values of arguments -/
def VaA (t : TA) (σ : L2.St) (H : Hp) (vs : List V) : Prop := ∀ Q : List V → Hp → Prop, Q vs H → t σ H Q
theorem va_nil : VaA tNil σ H [] := fun Q q => q
theorem va_cons {tr : TA} {vs : List V} (h : Val ta σ H v) (r : VaA tr σ H vs) : VaA (tCons ta tr) σ H (v :: vs) := fun Q q => h _ (r _ q)
theorem n_lst {ts : TA} {vs : List V} {xs : List α} (h : VaA ts σ H vs) (z : vs.length ≤ Mi.big) (r : Paired (fun u x => τ.rep K H [] u x) vs xs)
    (k : ∀ p H', H p = none → Chg [] H H' → (yLst τ).rep K H' [p] (.ref p) xs → Q (.ref p) H') : L2.tLst ts σ H Q := h _ ⟨sz z, fun p np => k p _ np (Chg.new np)
      ⟨p, vs, rfl, rfl, upd_same, Paired.mapP r fun u x q => Ty.ex q (Chg.new np)⟩⟩
theorem n_tup {ts : TA} {ty : Tys α} {vs : List V} {d : α} {F : List Addr} (h : VaA ts σ H vs) (z : vs.length ≤ Mi.big) (r : ty.rep K H F vs d)
    (k : ∀ p H', H p = none → Chg [] H H' → (yTup ty).rep K H' F (.ref p) d → Q (.ref p) H') : L2.tTup ts σ H Q := h _ ⟨sz z, fun p np => k p _ np (Chg.new np)
      ⟨p, vs, rfl, .inl (.inl upd_same), ty.keep r fun b o e _ => by rw [upd_ne (ne_of_none e np)]; exact e⟩⟩
/-- xs.append(e) -/
theorem m_app {xs ys : List α} {d : α} (r : (yLst τ).rep K H F v xs) (ru : τ.rep K H [] u d) (hm : Mi.app xs d = some ys) (k : ∀ H', Chg F H H' → (yLst τ).rep K H' F v ys → Q .non H') : rAppend v [u] H Q := by
  obtain ⟨p, vs, rfl, rfl, g, q⟩ := r
  unfold Mi.app at hm
  split at hm
  · rename_i hz
    cases hm
    have c : Chg [p] H (upd H p (.lst (vs ++ [u]))) := Chg.wr g (fun z => z)
    refine ⟨p, vs, u, rfl, rfl, g, Nat.lt_of_lt_of_le (by rw [pr_len q]; exact hz) line_big, k _ c ⟨p, _, rfl, rfl, upd_same, ?_⟩⟩
    exact pr_app (Paired.mapP q fun _ _ z => Ty.fz z c) (.cons (Ty.fz ru c) .nil)
  · cases hm
/-- xs[i] = e -/
theorem m_set {xs ys : List α} {d : α} {Q : Hp → Prop} (r : (yLst τ).rep K H F v xs) (ru : τ.rep K H [] u d) (hm : Mi.setAt xs i d = some ys) (k : ∀ H', Chg F H H' → (yLst τ).rep K H' F v ys → Q H') : rSetL v (.int i) u H Q := by
  obtain ⟨p, vs, rfl, rfl, g, q⟩ := r
  unfold Mi.setAt at hm
  obtain ⟨j, e, hm⟩ := Mi.bnd hm
  cases hm
  have c : Chg [p] H (upd H p (.lst (vs.set j u))) := Chg.wr g (fun z => z)
  refine ⟨p, vs, i, j, rfl, rfl, g, by rw [pr_len q]; exact e, k _ c ⟨p, _, rfl, rfl, upd_same, ?_⟩⟩
  exact pr_set (Ty.fz ru c) j (Paired.mapP q fun _ _ z => Ty.fz z c)
end cps
end G

namespace G
open PySem PySem.Spec PyProof.Rows L2
/-- the built-in names that the program leaves as they are -/
structure Bi (mg : Str → Option Value) : Prop where
  len : mg "len" = none
  range : mg "range" = none
  int : mg "int" = none
  bool : mg "bool" = none
  isinstance : mg "isinstance" = none
  max : mg "max" = none
  min : mg "min" = none
  list : mg "list" = none
  tuple : mg "tuple" = none
  sorted : mg "sorted" = none
  set : mg "set" = none
  enumerate : mg "enumerate" = none
  zip : mg "zip" = none
  reversed : mg "reversed" = none
  sum : mg "sum" = none
  any : mg "any" = none
  all : mg "all" = none
  str : mg "str" = none
/-- a def of the text stands under its name -/
structure Dfn (K : PySem.W.Frag) (mg : Str → Option Value) (x : Str) (st : Stmt) : Prop where
  ex : ∃ f fd, Fun K x x st f fd ∧ mg x = some (.ref f)
/-- a def may be called by its name and keeps its promise -/
structure Cal (P : Program) (w : World) (K : PySem.W.Frag) (mg : Str → Option Value) (x : Str) (ps : List Str) (k : Nat) (sp : Sp) : Prop where
  ex : ∃ f fd, mg x = some (.ref f) ∧ PySem.W.keepIn K (.ref f) = true ∧ (∀ (s : Shared) (us : List Value), us.length = ps.length → BindsTo s fd ⟨us, []⟩ (ps.zip us)) ∧ ∀ base : Heap, FnOk P w K mg base CX0 k f fd ps sp
theorem pe_cc {X : Cx} {x : Str} {ps : List Str} {j k : Nat} {sp : Sp} {p pos : Pos} {e : Expr} {es : List Expr} {t : TA} (C : Cal X.prog X.w X.K X.mg x ps j sp) (hr : Room k X.A) (ha : PA X (e :: es) t) (hj : j ≤ k := by decide) (hg : Gl X x := by rfl)
    (hd : (x == ("__debug__" : Str)) = false := by decide) (he : starEach (e :: es) X.env = (false, eval e X.env) :: starEach es X.env := by rfl)
    (hpl : (backTo pos (starEach es X.env)).any (·.1) = false := by rfl) :
    PE X (.Call (.Name x p) (e :: es) [] pos) (tCall sp [] E0 t) := by
  obtain ⟨f, fd, g, kp, b, F⟩ := C.ex
  exact pe_call (F X.base) (hr.mono hj) hg g kp (fun s us _ hl => by rw [List.append_nil] at hl ⊢; exact b s us hl) .nil pass0 ha hd he hpl
theorem bindsF {K : PySem.W.Frag} {x qual : Str} {st : Stmt} {f : Addr} {fd : FuncData} {ps : List Str} (F : Fun K x qual st f fd)
    (h : ∀ (kV doc pm : Value) (an : Option Addr) (cdv ct : Value) (us : List Value), us.length = ps.length → bindArgs (PySem.W.fnOf x qual (defArgs st) (defBody st) (defScope st) .none kV doc pm an cdv ct) ⟨us, []⟩ = pure (ps.zip us)) (s : Shared) (us : List Value) (hl : us.length = ps.length) : BindsTo s fd ⟨us, []⟩ (ps.zip us) := by
  obtain ⟨oc, od, kV, doc, pm, an, cdv, ct, osl, rfl, lk, hcd⟩ := F.ex
  exact .of_eq (h kV doc pm an cdv ct us hl)
end G

namespace G
open PySem PySem.Spec PyProof.Rows L2
section
variable {K : PySem.W.Frag} {σ σ' : L2.St} {H : Hp} {F : List Addr} {ta tb te : TE} {v u x y : V} {i j : Int} {t tu : TT} {b c a : Bool} {α β : Type} {τ : Ty α} {Q : VK} {D : Ends} {t1 t2 : TS}
theorem val_add (ha : Val ta σ H (.int i)) (hb : Val tb σ H (.int j)) : Val (tOp (rI0 fun i j => .int (i + j)) ta tb) σ H (.int (i + j)) := val_I0 ha hb
theorem val_sub (ha : Val ta σ H (.int i)) (hb : Val tb σ H (.int j)) : Val (tOp (rI0 fun i j => .int (i - j)) ta tb) σ H (.int (i - j)) := val_I0 ha hb
theorem val_lt (ha : Val ta σ H (.int i)) (hb : Val tb σ H (.int j)) : Val (tOp (rI0 fun i j => .bl (decide (i < j))) ta tb) σ H (.bl (decide (i < j))) := val_I0 (g := fun i j => .bl (decide (i < j))) ha hb
theorem val_le (ha : Val ta σ H (.int i)) (hb : Val tb σ H (.int j)) : Val (tOp (rI0 fun i j => .bl (decide (i ≤ j))) ta tb) σ H (.bl (decide (i ≤ j))) := val_I0 (g := fun i j => .bl (decide (i ≤ j))) ha hb
theorem val_gt (ha : Val ta σ H (.int i)) (hb : Val tb σ H (.int j)) : Val (tOp (rI0 fun i j => .bl (decide (j < i))) ta tb) σ H (.bl (decide (j < i))) := val_I0 (g := fun i j => .bl (decide (j < i))) ha hb
theorem val_ge (ha : Val ta σ H (.int i)) (hb : Val tb σ H (.int j)) : Val (tOp (rI0 fun i j => .bl (decide (j ≤ i))) ta tb) σ H (.bl (decide (j ≤ i))) := val_I0 (g := fun i j => .bl (decide (j ≤ i))) ha hb
theorem val_neg (ha : Val ta σ H (.int i)) : Val (tUn (rU fun i => .int (-i)) ta) σ H (.int (-i)) := val_U (g := fun i => .int (-i)) ha
theorem val_mulL (ha : Val ta σ H (.int i)) (hb : Val tb σ H (.int j)) (h : -(2 ^ 64) < i ∧ i < 2 ^ 64) : Val (tOp (rI CMul fun i j => .int (i * j)) ta tb) σ H (.int (i * j)) := val_I (g := fun i j => .int (i * j)) ha hb (.inl h)
theorem val_mulR (ha : Val ta σ H (.int i)) (hb : Val tb σ H (.int j)) (h : -(2 ^ 64) < j ∧ j < 2 ^ 64) : Val (tOp (rI CMul fun i j => .int (i * j)) ta tb) σ H (.int (i * j)) := val_I (g := fun i j => .int (i * j)) ha hb (.inr h)
theorem val_modc (ha : Val ta σ H (.int i)) (hb : Val tb σ H (.int j)) (h : 0 < j) : Val (tOp (rI (fun _ j => 0 < j) fun i j => .int (i % j)) ta tb) σ H (.int (i % j)) := val_I (g := fun i j => .int (i % j)) ha hb h
theorem val_divc (ha : Val ta σ H (.int i)) (hb : Val tb σ H (.int j)) (h : CDiv i j) : Val (tOp (rI CDiv fun i j => .int (i / j)) ta tb) σ H (.int (i / j)) := val_I (g := fun i j => .int (i / j)) ha hb h
theorem val_pow {n : Nat} (ha : Val ta σ H (.int i)) (hb : Val tb σ H (.int j)) (e : j = (n : Int)) (hn : n ≤ 1000000) (h : i.natAbs < 2 ^ 64) : Val (tOp (rI CPow fun i j => .int (i ^ j.toNat)) ta tb) σ H (.int (i ^ n)) := by
  subst e
  exact val_I (g := fun i j => .int (i ^ j.toNat)) ha hb ⟨by omega, by omega, h⟩
theorem val_shl {n : Nat} (ha : Val ta σ H (.int i)) (hb : Val tb σ H (.int j)) (h : CPow i j) : Val (tOp (rI CPow fun i j => .int (i * 2 ^ j.toNat)) ta tb) σ H (.int (i * 2 ^ j.toNat)) := val_I (g := fun i j => .int (i * 2 ^ j.toNat)) ha hb h
theorem val_shr (ha : Val ta σ H (.int i)) (hb : Val tb σ H (.int j)) (h : 0 ≤ j) : Val (tOp (rI (fun _ j => 0 ≤ j) fun i j => .int (i / 2 ^ j.toNat)) ta tb) σ H (.int (i / 2 ^ j.toNat)) := val_I (g := fun i j => .int (i / 2 ^ j.toNat)) ha hb h
theorem ans_B (h : Val te σ H (.bl b)) : Ans (tB te) σ H b := ans_val h
theorem ans_N (h : Ans t σ H b) : Ans (tNot t) σ H (!b) := ans_not h
theorem ans_andB (h1 : Ans t σ H a) (h2 : a = true → Ans tu σ H b) : Ans (tAnd t tu) σ H (a && b) := by
  cases a with
  | true => exact ans_and h1 (h2 rfl)
  | false => exact ans_and0 h1
theorem ans_orB (h1 : Ans t σ H a) (h2 : a = false → Ans tu σ H b) : Ans (tOr t tu) σ H (a || b) := by
  cases a with
  | true => exact ans_or1 h1
  | false => exact ans_or h1 (h2 rfl)
theorem ans_andO {m : Option Bool} (h1 : Ans t σ H a) (hc : (if a = true then m else some false) = some c) (h2 : m = some c → Ans tu σ H c) : Ans (tAnd t tu) σ H c := by
  cases a with
  | true => exact ans_and h1 (h2 hc)
  | false => cases hc; exact ans_and0 h1
theorem ans_orO {m : Option Bool} (h1 : Ans t σ H a) (hc : (if a = true then some true else m) = some c) (h2 : m = some c → Ans tu σ H c) : Ans (tOr t tu) σ H c := by
  cases a with
  | true => cases hc; exact ans_or1 h1
  | false => exact ans_or h1 (h2 hc)
theorem val_notV (h : Val ta σ H (.bl a)) : Val (tNotV ta) σ H (.bl (!a)) := fun Q q => h _ ⟨a, rfl, q⟩
theorem val_andV (h1 : Val ta σ H (.bl a)) (h2 : a = true → Val tb σ H (.bl b)) : Val (tAndV ta tb) σ H (.bl (a && b)) := fun Q q => h1 _ ⟨a, rfl, by
  cases a with
  | true => exact iteT (h2 rfl Q q)
  | false => exact iteF q⟩
theorem val_orV (h1 : Val ta σ H (.bl a)) (h2 : a = false → Val tb σ H (.bl b)) : Val (tOrV ta tb) σ H (.bl (a || b)) := fun Q q => h1 _ ⟨a, rfl, by
  cases a with
  | true => exact iteT q
  | false => exact iteF (h2 rfl Q q)⟩
theorem val_andVO {m : Option Bool} (h1 : Val ta σ H (.bl a)) (hc : (if a = true then m else some false) = some c) (h2 : m = some c → Val tb σ H (.bl c)) : Val (tAndV ta tb) σ H (.bl c) := fun Q q => h1 _ ⟨a, rfl, by
  cases a with
  | true => exact iteT (h2 hc Q q)
  | false => cases hc; exact iteF q⟩
theorem val_orVO {m : Option Bool} (h1 : Val ta σ H (.bl a)) (hc : (if a = true then some true else m) = some c) (h2 : m = some c → Val tb σ H (.bl c)) : Val (tOrV ta tb) σ H (.bl c) := fun Q q => h1 _ ⟨a, rfl, by
  cases a with
  | true => cases hc; exact iteT q
  | false => exact iteF (h2 hc Q q)⟩
/-! ### readings taken apart -/
theorem w_op {r : R2} (h : ta σ H fun x H1 => tb σ H1 fun y H2 => r x y H2 Q) : tOp r ta tb σ H Q := h
theorem w_un {r : V → Hp → VK → Prop} (h : ta σ H fun x H1 => r x H1 Q) : tUn r ta σ H Q := h
theorem w_cb {r : List V → Hp → VK → Prop} {ts : TA} (h : ts σ H fun vs H1 => r vs H1 Q) : tCB r ts σ H Q := h
theorem w_call {sp : Sp} {dvs : List V} {E : XK} {ts : TA} (h : ts σ H fun vs H1 => sp (vs ++ dvs) H1 Q E) : tCall sp dvs E ts σ H Q := h
theorem w_cons {tr : TA} {Q : List V → Hp → Prop} (h : ta σ H fun x H1 => tr σ H1 fun xs H2 => Q (x :: xs) H2) : tCons ta tr σ H Q := h
theorem w_nil {Q : List V → Hp → Prop} (h : Q [] H) : tNil σ H Q := h
theorem w_args {ts : TA} {vs : List V} {Q : List V → Hp → Prop} (h : VaA ts σ H vs) (k : Q vs H) : ts σ H Q := h Q k
def LstG (xs : List V) (H : Hp) (Q : VK) : Prop := xs.length ≤ sizeLine ∧ ∀ p, H p = none → Q (.ref p) (upd H p (.lst xs))
def TupG (xs : List V) (H : Hp) (Q : VK) : Prop := xs.length ≤ sizeLine ∧ ∀ p, H p = none → Q (.ref p) (upd H p (.tup xs))
theorem w_lst {ts : TA} (h : ts σ H fun xs H1 => LstG xs H1 Q) : L2.tLst ts σ H Q := h
theorem w_tup {ts : TA} (h : ts σ H fun xs H1 => TupG xs H1 Q) : L2.tTup ts σ H Q := h
theorem w_test {Q : Bool → Hp → Prop} (h : te σ H fun x H' => ∃ k, x = .bl k ∧ Q k H') : tTest te σ H Q := h
theorem w_B {Q : Bool → Hp → Prop} (h : te σ H fun x H' => ∃ k, x = .bl k ∧ Q k H') : tB te σ H Q := h
theorem w_bl {Q : Bool → Hp → Prop} (k : Q b H) : ∃ k, V.bl b = .bl k ∧ Q k H := ⟨b, rfl, k⟩
theorem w_not {Q : Bool → Hp → Prop} (h : t σ H fun c H1 => Q (!c) H1) : tNot t σ H Q := h
theorem w_and {Q : Bool → Hp → Prop} (h : t σ H fun c H1 => if c = true then tu σ H1 Q else Q false H1) : tAnd t tu σ H Q := h
theorem w_or {Q : Bool → Hp → Prop} (h : t σ H fun c H1 => if c = true then Q true H1 else tu σ H1 Q) : tOr t tu σ H Q := h
theorem w_andV (h : ta σ H fun x H1 => ∃ c, x = .bl c ∧ if c = true then tb σ H1 Q else Q (.bl false) H1) : tAndV ta tb σ H Q := h
theorem w_orV (h : ta σ H fun x H1 => ∃ c, x = .bl c ∧ if c = true then Q (.bl true) H1 else tb σ H1 Q) : tOrV ta tb σ H Q := h
theorem w_notV (h : ta σ H fun x H1 => ∃ c, x = .bl c ∧ Q (.bl (!c)) H1) : tNotV ta σ H Q := h
theorem w_blV {P : Bool → Prop} (k : P b) : ∃ k, V.bl b = .bl k ∧ P k := ⟨b, rfl, k⟩
theorem w_I0 {g : Int → Int → V} (k : Q (g i j) H) : rI0 g (.int i) (.int j) H Q := ⟨i, j, rfl, rfl, k⟩
theorem w_I {C : Int → Int → Prop} {g : Int → Int → V} (hc : C i j) (k : Q (g i j) H) : rI C g (.int i) (.int j) H Q := ⟨i, j, rfl, rfl, hc, k⟩
theorem w_U {g : Int → V} (k : Q (g i) H) : rU g (.int i) H Q := ⟨i, rfl, k⟩
theorem w_mul {r : Int} (h : Mi.mul i j = some r) (k : Q (.int r) H) : rI CMul (fun i j => .int (i * j)) (.int i) (.int j) H Q := ⟨i, j, rfl, rfl, (mulC h).1, by show Q (.int (i * j)) H; rw [(mulC h).2]; exact k⟩
theorem w_mod {r : Int} (h : Mi.mod i j = some r) (k : Q (.int r) H) : rI (fun _ j => 0 < j) (fun i j => .int (i % j)) (.int i) (.int j) H Q := ⟨i, j, rfl, rfl, (modC h).1, by show Q (.int (i % j)) H; rw [(modC h).2]; exact k⟩
theorem w_fdiv {r : Int} (h : Mi.fdiv i j = some r) (k : Q (.int r) H) : rI CDivW (fun i j => .int (i / j)) (.int i) (.int j) H Q := ⟨i, j, rfl, rfl, (divC h).1, by show Q (.int (i / j)) H; rw [(divC h).2]; exact k⟩
theorem w_eqI (k : Q (.bl (decide (i = j))) H) : rEq (.int i) (.int j) H Q := ⟨rfl, by rw [dI]; exact k⟩
theorem w_neI (k : Q (.bl (!decide (i = j))) H) : rNe (.int i) (.int j) H Q := ⟨rfl, by rw [dI]; exact k⟩
theorem w_eqB (k : Q (.bl (decide (b = c))) H) : rEq (.bl b) (.bl c) H Q := ⟨rfl, by rw [dB]; exact k⟩
theorem w_neB (k : Q (.bl (!decide (b = c))) H) : rNe (.bl b) (.bl c) H Q := ⟨rfl, by rw [dB]; exact k⟩
theorem w_int (k : Q (.int i) H) : rInt1 [.int i] H Q := .inl ⟨i, rfl, k⟩
theorem w_max2 (k : Q (.int (max i j)) H) : rMax2 [.int i, .int j] H Q := ⟨i, j, rfl, by
  have e : (if j > i then j else i) = max i j := by split <;> omega
  rw [e]; exact k⟩
theorem w_min2 (k : Q (.int (min i j)) H) : rMin2 [.int i, .int j] H Q := ⟨i, j, rfl, by
  have e : (if j < i then j else i) = min i j := by split <;> omega
  rw [e]; exact k⟩
theorem w_lenL {xs : List α} (r : (yLst τ).rep K H F v xs) (k : Q (.int (xs.length : Int)) H) : rLenQ K [v] H Q := by
  obtain ⟨a, vs, e, s, q⟩ := lst_sq r
  subst e
  exact ⟨a, vs, rfl, .inl s, by rw [pr_len q]; exact k⟩
theorem w_lenT {xs : List α} (r : (yTupL τ).rep K H F v xs) (k : Q (.int (xs.length : Int)) H) : rLenQ K [v] H Q := by
  obtain ⟨a, vs, e, s, q⟩ := tupl_sq r
  subst e
  exact ⟨a, vs, rfl, .inr s, by rw [pr_len q]; exact k⟩
theorem w_ixL {xs : List α} {x : α} (r : (yLst τ).rep K H F v xs) (h : Mi.at_ xs i = some x) (k : ∀ u, τ.rep K H [] u x → Q u H) : rIxL K v (.int i) H Q := by
  obtain ⟨a, vs, e, s, q⟩ := lst_sq r
  subst e
  obtain ⟨u, e, ru⟩ := pr_at q h
  exact ⟨a, vs, i, u, rfl, rfl, s, e, k u ru⟩
theorem w_ixT {xs : List α} {x : α} (r : (yTupL τ).rep K H F v xs) (h : Mi.at_ xs i = some x) (k : ∀ u, τ.rep K H [] u x → Q u H) : rIxT K v (.int i) H Q := by
  obtain ⟨a, vs, e, s, q⟩ := tupl_sq r
  subst e
  obtain ⟨u, e, ru⟩ := pr_at q h
  exact ⟨a, vs, i, u, rfl, rfl, s, e, k u ru⟩
theorem e_lst {vs : List V} {xs : List α} (z : vs.length ≤ Mi.big) (r : Paired (fun u x => τ.rep K H [] u x) vs xs) (k : ∀ p H', H p = none → Chg [] H H' → (yLst τ).rep K H' [p] (.ref p) xs → Q (.ref p) H') :
    LstG vs H Q := ⟨sz z, fun p np => k p _ np (Chg.new np)
      ⟨p, vs, rfl, rfl, upd_same, Paired.mapP r fun u x q => Ty.ex q (Chg.new np)⟩⟩
theorem e_tup {ty : Tys α} {vs : List V} {d : α} {F : List Addr} (z : vs.length ≤ Mi.big) (r : ty.rep K H F vs d) (k : ∀ p H', H p = none → Chg [] H H' → (yTup ty).rep K H' F (.ref p) d → Q (.ref p) H') :
    TupG vs H Q := ⟨sz z, fun p np => k p _ np (Chg.new np)
      ⟨p, vs, rfl, .inl (.inl upd_same), ty.keep r fun b o e _ => by rw [upd_ne (ne_of_none e np)]; exact e⟩⟩
/-! ### statements -/
theorem w_asg {g : TG} (h : te σ H fun x H1 => g x σ H1 D.nx) : tAsg te g D σ H := h
theorem w_drop (h : te σ H fun _ H1 => D.nx σ H1) : tDrop te D σ H := h
theorem w_ret (h : te σ H D.rt) : tRet te D σ H := h
theorem w_retN (h : D.rt .non H) : tRetN D σ H := h
theorem w_next (h : D.nx σ H) : tNext D σ H := h
theorem w_cont (h : D.ct σ H) : tCont D σ H := h
theorem w_break (h : D.bk σ H) : tBreak D σ H := h
theorem w_ifS (h : t σ H fun b H1 => if b = true then t1 D σ H1 else t2 D σ H1) : tIfS t t1 t2 D σ H := h
theorem w_ifE (h : t σ H fun c H1 => if c = true then ta σ H1 Q else tb σ H1 Q) : tIf t ta tb σ H Q := h
theorem w_gsub {to ti : TE} {ts : TSet} {Q : L2.St → Hp → Prop} (h : to σ H fun o H1 => ti σ H1 fun i H2 => ts o i v H2 fun H3 => Q σ H3) : gSub to ti ts v σ H Q := h
theorem w_bm {T : String} {r : V → List V → Hp → VK → Prop} {to : TE} {ts : TA} (h : to σ H fun x H1 => tyV K T x H1 ∧ ts σ H1 fun xs H2 => r x xs H2 Q) : tBM K T r to ts σ H Q := h
theorem w_bm0 {T : String} {r : V → List V → Hp → VK → Prop} {to : TE} (h : to σ H fun x H1 => tyV K T x H1 ∧ r x [] H1 Q) : tBM0 K T r to σ H Q := h
theorem tyv_lst {xs : List α} (r : (yLst τ).rep K H F v xs) : tyV K "list" v H := by
  obtain ⟨a, vs, rfl, s, q⟩ := lst_sq r
  exact .inl ⟨rfl, _, s⟩
/-- a join of tests -/
theorem j_tt {R : Hp → Prop} {Q : Bool → Hp → Prop} (c : Bool) (w : ∀ Q' : Bool → Hp → Prop, (∀ H', R H' → Q' c H') → t σ H Q') (k : ∀ H', R H' → Q c H') : t σ H Q := w Q k
theorem j_te {R : Hp → Prop} (x : V) (w : ∀ Q' : VK, (∀ H', R H' → Q' x H') → te σ H Q') (k : ∀ H', R H' → Q x H') : te σ H Q := w Q k
/-! ### statements with what follows -/
theorem q_asg {g : TG} (h : te σ H fun x H1 => g x σ H1 (t2 D)) : tSeq (tAsg te g) t2 D σ H := h
theorem q_setE {k : Nat} {w : V} (h : Val te σ H v) (ev : v = w) (e : σ.set k (some w) = σ') (q : t2 D σ' H) : tSeq (tAsg te (gName k)) t2 D σ H := by
  subst ev
  exact h _ (by show t2 D (σ.set k (some v)) H; rw [e]; exact q)
theorem q_drop (h : te σ H fun _ H1 => t2 D σ H1) : tSeq (tDrop te) t2 D σ H := h
theorem q_ret (h : te σ H D.rt) : tSeq (tRet te) t2 D σ H := h
theorem q_retN (h : D.rt .non H) : tSeq tRetN t2 D σ H := h
theorem q_pass (h : t2 D σ H) : tSeq tNext t2 D σ H := h
theorem q_cont (h : D.ct σ H) : tSeq tCont t2 D σ H := h
theorem q_brk (h : D.bk σ H) : tSeq tBreak t2 D σ H := h
theorem q_if {t3 : TS} (h : Ans t σ H b) (h1 : b = true → t1 { D with nx := t2 D } σ H) (h2 : b = false → t3 { D with nx := t2 D } σ H) : tSeq (tIfS t t1 t3) t2 D σ H := h _ (c_if h1 h2)
theorem q_ifS {t3 : TS} (h : t σ H fun b H1 => if b = true then t1 { D with nx := t2 D } σ H1 else t3 { D with nx := t2 D } σ H1) : tSeq (tIfS t t1 t3) t2 D σ H := h
theorem w_fall (h : t2 D σ H) : tNext { D with nx := t2 D } σ H := h
theorem w_nextJ {nx bk ct : L2.St → Hp → Prop} {rt : VK} (h : nx σ H) : tNext (Ends.mk nx rt bk ct) σ H := h
theorem q_aug {k : Nat} {f : Int → Int → Int} {m n p : Int} (hx : σ[k]? = some (some (.int m))) (h : Val te σ H (.int n)) (en : f m n = p) (e : σ.set k (some (.int p)) = σ') (q : t2 D σ' H) : tSeq (tAug k te (ipI f)) t2 D σ H :=
  ⟨_, hx, h _ ⟨m, n, rfl, rfl, by rw [en]; show t2 D (List.set σ k (some (.int p))) H; rw [e]; exact q⟩⟩
/-! ### loops -/
def LoopG (J : It) (g : TG) (tb : TS) (D : Ends) (nx : L2.St → Hp → Prop) (σ : L2.St) (H : Hp) : Prop := ∃ W : Nat → Nat → L2.St → Hp → Prop, (∃ m, W 0 m σ H) ∧ ∀ i m σ H, W i m σ H →
  (J.stop i H ∧ nx σ H) ∨ (J.go i H ∧ ∃ N : L2.St → Hp → Prop, (∀ σ' H', N σ' H' → ∃ m', m' < m ∧ W (i + 1) m' σ' H') ∧ ∀ x H', J.yld i H x H' → g x σ H' fun σ2 H2 => tb { D with nx := N, ct := N, bk := nx } σ2 H2)
theorem q_for {wi : TI} {g : TG} {tb : TS} (h : wi σ H fun J H1 => LoopG J g tb D (t2 D) σ H1) : tSeq (tFor wi g tb) t2 D σ H := h
theorem w_iList {tl : TE} {R : It → Hp → Prop} (h : tl σ H fun x H1 => ∃ a, x = .ref a ∧ (∃ xs, SqL K H1 a xs) ∧ R (Itl K a) H1) : iList K tl σ H R := h
theorem w_iTup {tl : TE} {R : It → Hp → Prop} (h : tl σ H fun x H1 => ∃ a, x = .ref a ∧ (∃ xs, SqT K H1 a xs) ∧ R (Itt K a) H1) : iTup K tl σ H R := h
theorem w_iRng1 {ts : TA} {R : It → Hp → Prop} (h : ts σ H fun vs H1 => ∃ j : Int, vs = [.int j] ∧ -(2 ^ 62) ≤ j ∧ j < 2 ^ 62 ∧ R (Itr 0 j.toNat) H1) : iRng1 ts σ H R := h
theorem w_iRng2 {ts : TA} {R : It → Hp → Prop} (h : ts σ H fun vs H1 => ∃ i j : Int, vs = [.int i, .int j] ∧ (-(2 ^ 62) ≤ i ∧ i < 2 ^ 62 ∧ -(2 ^ 62) ≤ j ∧ j < 2 ^ 62) ∧ R (Itr i (j - i).toNat) H1) : iRng2 ts σ H R := h
theorem rngO_some {lo hi : Int} {g : List Int} (h : Mi.rngO lo hi = some g) : g = Mi.rng lo hi ∧ (-(2 ^ 60) ≤ lo ∧ lo < 2 ^ 60) ∧ (-(2 ^ 60) ≤ hi ∧ hi < 2 ^ 60) := by
  unfold Mi.rngO at h
  split at h
  · rename_i c
    exact ⟨(Option.some.inj h).symm, c⟩
  · cases h
theorem rng_len (lo hi : Int) : (Mi.rng lo hi).length = (hi - lo).toNat := by unfold Mi.rng; rw [List.length_map, List.length_range]
theorem rng_at {lo hi : Int} {i : Nat} (h : i < (hi - lo).toNat) : (Mi.rng lo hi)[i]? = some (lo + i) := by
  unfold Mi.rng
  rw [List.getElem?_map, List.getElem?_range h]
  rfl
theorem l_rng {g : TG} {tb : TS} {nx : L2.St → Hp → Prop} {lo hi : Int} (Pv : Nat → L2.St → Hp → Prop) (h0 : Pv 0 σ H)
    (hs : ∀ (i : Nat) (x : Int) σ' H', (Mi.rng lo hi)[i]? = some x → Pv i σ' H' → g (.int x) σ' H' fun σ2 H2 => tb { D with nx := Pv (i + 1), ct := Pv (i + 1), bk := nx } σ2 H2) (hd : ∀ σ' H', Pv (Mi.rng lo hi).length σ' H' → nx σ' H') :
    LoopG (Itr lo (hi - lo).toNat) g tb D nx σ H := for_range (D := { D with nx := nx }) (lo := lo) (n := (hi - lo).toNat) Pv h0 (fun i σ' H' hi' p => hs i _ σ' H' (rng_at hi') p) (fun σ' H' p => hd σ' H' (by rw [rng_len]; exact p))
theorem l_rng1 {g : TG} {tb : TS} {nx : L2.St → Hp → Prop} {hi : Int} {xs : List Int} (hg : Mi.rngO 0 hi = some xs) (Pv : Nat → L2.St → Hp → Prop) (h0 : Pv 0 σ H)
    (hs : ∀ (i : Nat) (x : Int) σ' H', xs[i]? = some x → Pv i σ' H' → g (.int x) σ' H' fun σ2 H2 => tb { D with nx := Pv (i + 1), ct := Pv (i + 1), bk := nx } σ2 H2) (hd : ∀ σ' H', Pv xs.length σ' H' → nx σ' H') :
    ∃ j : Int, [V.int hi] = [.int j] ∧ -(2 ^ 62) ≤ j ∧ j < 2 ^ 62 ∧ LoopG (Itr 0 j.toNat) g tb D nx σ H := by
  obtain ⟨rfl, _, h1, h2⟩ := rngO_some hg
  refine ⟨hi, rfl, by omega, by omega, ?_⟩
  have e : hi.toNat = (hi - 0).toNat := by rw [Int.sub_zero]
  rw [e]
  exact l_rng Pv h0 hs hd
theorem l_rng2 {g : TG} {tb : TS} {nx : L2.St → Hp → Prop} {lo hi : Int} {xs : List Int} (hg : Mi.rngO lo hi = some xs) (Pv : Nat → L2.St → Hp → Prop) (h0 : Pv 0 σ H)
    (hs : ∀ (i : Nat) (x : Int) σ' H', xs[i]? = some x → Pv i σ' H' → g (.int x) σ' H' fun σ2 H2 => tb { D with nx := Pv (i + 1), ct := Pv (i + 1), bk := nx } σ2 H2) (hd : ∀ σ' H', Pv xs.length σ' H' → nx σ' H') :
    ∃ i j : Int, [V.int lo, V.int hi] = [.int i, .int j] ∧ (-(2 ^ 62) ≤ i ∧ i < 2 ^ 62 ∧ -(2 ^ 62) ≤ j ∧ j < 2 ^ 62) ∧ LoopG (Itr i (j - i).toNat) g tb D nx σ H := by
  obtain ⟨rfl, h1, h2⟩ := rngO_some hg
  exact ⟨lo, hi, rfl, by omega, l_rng Pv h0 hs hd⟩
theorem l_lst {g : TG} {tb : TS} {nx : L2.St → Hp → Prop} {xs : List α} (r : (yLst τ).rep K H F v xs) (Pv : Nat → L2.St → Hp → Prop) (h0 : Pv 0 σ H) (hl : ∀ i σ' H', Pv i σ' H' → (yLst τ).rep K H' F v xs)
    (hs : ∀ (i : Nat) (x : α) (u : V) σ' H', xs[i]? = some x → τ.rep K H' [] u x → Pv i σ' H' → g u σ' H' fun σ2 H2 => tb { D with nx := Pv (i + 1), ct := Pv (i + 1), bk := nx } σ2 H2) (hd : ∀ σ' H', Pv xs.length σ' H' → nx σ' H') :
    ∃ a, v = .ref a ∧ (∃ xs, SqL K H a xs) ∧ LoopG (Itl K a) g tb D nx σ H := by
  obtain ⟨a, vs, e, s, q⟩ := lst_sq r
  refine ⟨a, e, ⟨vs, s⟩, fun i m σ' H' => m = xs.length - i ∧ i ≤ xs.length ∧ Pv i σ' H', ⟨xs.length, by omega, Nat.zero_le _, h0⟩, ?_⟩
  rintro i m σ' H' ⟨rfl, hi, p⟩
  obtain ⟨a', vs', e', s', q'⟩ := lst_sq (hl i σ' H' p)
  obtain rfl : a = a' := by rw [e] at e'; exact V.ref.inj e'
  by_cases hlt : i < xs.length
  · obtain ⟨u, hu, ru⟩ := pr_get q' (List.getElem?_eq_getElem hlt)
    refine .inr ⟨⟨vs', u, s', hu⟩, Pv (i + 1), fun σ2 H2 p' => ⟨xs.length - (i + 1), by omega, rfl, hlt, p'⟩, fun x H2 y => ?_⟩
    obtain ⟨rfl, y⟩ := y
    obtain rfl : x = u := Option.some.inj ((y _ s').symm.trans hu)
    exact hs i _ _ σ' _ (List.getElem?_eq_getElem hlt) ru p
  · obtain rfl : i = xs.length := by omega
    exact .inl ⟨⟨vs', s', by rw [pr_len q']; exact Nat.le_refl _⟩, hd σ' H' p⟩
theorem l_tup {g : TG} {tb : TS} {nx : L2.St → Hp → Prop} {xs : List α} (r : (yTupL τ).rep K H F v xs) (Pv : Nat → L2.St → Hp → Prop) (h0 : Pv 0 σ H) (hl : ∀ i σ' H', Pv i σ' H' → (yTupL τ).rep K H' F v xs)
    (hs : ∀ (i : Nat) (x : α) (u : V) σ' H', xs[i]? = some x → τ.rep K H' [] u x → Pv i σ' H' → g u σ' H' fun σ2 H2 => tb { D with nx := Pv (i + 1), ct := Pv (i + 1), bk := nx } σ2 H2) (hd : ∀ σ' H', Pv xs.length σ' H' → nx σ' H') :
    ∃ a, v = .ref a ∧ (∃ xs, SqT K H a xs) ∧ LoopG (Itt K a) g tb D nx σ H := by
  obtain ⟨a, vs, e, s, q⟩ := tupl_sq r
  refine ⟨a, e, ⟨vs, s⟩, fun i m σ' H' => m = xs.length - i ∧ i ≤ xs.length ∧ Pv i σ' H', ⟨xs.length, by omega, Nat.zero_le _, h0⟩, ?_⟩
  rintro i m σ' H' ⟨rfl, hi, p⟩
  obtain ⟨a', vs', e', s', q'⟩ := tupl_sq (hl i σ' H' p)
  obtain rfl : a = a' := by rw [e] at e'; exact V.ref.inj e'
  by_cases hlt : i < xs.length
  · obtain ⟨u, hu, ru⟩ := pr_get q' (List.getElem?_eq_getElem hlt)
    refine .inr ⟨⟨vs', u, s', hu⟩, Pv (i + 1), fun σ2 H2 p' => ⟨xs.length - (i + 1), by omega, rfl, hlt, p'⟩, fun x H2 y => ?_⟩
    obtain ⟨rfl, y⟩ := y
    obtain rfl : x = u := Option.some.inj ((y _ s').symm.trans hu)
    exact hs i _ _ σ' _ (List.getElem?_eq_getElem hlt) ru p
  · obtain rfl : i = xs.length := by omega
    exact .inl ⟨⟨vs', s', by rw [pr_len q']; exact Nat.le_refl _⟩, hd σ' H' p⟩
end
/-! ### the items of tuples -/
/-- the n-th item has the kind τ and the data p d -/
def At {α β : Type} (ts : Tys α) (n : Nat) (τ : Ty β) (p : α → β) : Prop := ∀ {K : PySem.W.Frag} {H : Hp} {F : List Addr} {vs : List V} {d : α}, ts.rep K H F vs d → ∃ u F1, vs[n]? = some u ∧ τ.rep K H F1 u (p d) ∧ ∀ a ∈ F1, a ∈ F
theorem at1 {α : Type} {τ : Ty α} : At (sOne τ) 0 τ id := fun h => by
  obtain ⟨v, rfl, r⟩ := h
  exact ⟨v, _, rfl, r, fun _ h => h⟩
theorem at0 {α β : Type} {τ : Ty α} {ts : Tys β} : At (sCons τ ts) 0 τ (fun d => d.1) := fun h => by
  obtain ⟨v, ws, F1, F2, rfl, rfl, r, q⟩ := h
  exact ⟨v, F1, rfl, r, fun _ h => List.mem_append_left _ h⟩
theorem atS {α β γ : Type} {τ : Ty α} {ts : Tys β} {n : Nat} {υ : Ty γ} {p : β → γ} (A : At ts n υ p) : At (sCons τ ts) (n + 1) υ (fun d => p d.2) := fun h => by
  obtain ⟨v, ws, F1, F2, rfl, rfl, r, q⟩ := h
  obtain ⟨u, F3, e, ru, sub⟩ := A q
  exact ⟨u, F3, e, ru, fun _ h => List.mem_append_right _ (sub _ h)⟩
theorem Dj.sub {F G F1 : List Addr} (d : Dj F G) (s : ∀ a ∈ F1, a ∈ F) : Dj F1 G := fun a h => d a (s a h)
theorem itm_tup {α β : Type} {ts : Tys α} {n : Nat} {τ : Ty β} {p : α → β} {K : PySem.W.Frag} {H : Hp} {F : List Addr} {v : V} {d : α} (A : At ts n τ p) (r : (yTup ts).rep K H F v d) :
    ∃ u F1, τ.rep K H F1 u (p d) ∧ (∀ a ∈ F1, a ∈ F) ∧ (∀ {Q : VK}, Q u H → rIxT K v (.int (n : Int)) H Q) ∧ ∀ {σ : L2.St} {ta tb : TE}, Val ta σ H v → Val tb σ H (.int (n : Int)) → Val (tOp (rIxT K) ta tb) σ H u := by
  obtain ⟨a, vs, rfl, s, q⟩ := r
  obtain ⟨u, F1, e, ru, sub⟩ := A q
  have k : ∀ {Q : VK}, Q u H → rIxT K (.ref a) (.int (n : Int)) H Q := fun k => ⟨a, vs, n, u, rfl, rfl, s, atI_nat e, k⟩
  exact ⟨u, F1, ru, sub, k, fun ha hb => val_op ha hb fun Q q => k q⟩
end G

namespace G
open PySem PySem.Spec PyProof.Rows L2
section
variable {K : PySem.W.Frag} {σ σ' : L2.St} {H : Hp} {F G F1 F2 : List Addr} {ta tb te : TE} {v u x y w : V} {i j : Int} {t tu : TT} {b c a : Bool} {α β : Type} {τ : Ty α} {Q : VK} {D : Ends} {t1 t2 : TS}
theorem s_setE {k : Nat} (h : Val te σ H v) (ev : v = w) (e : σ.set k (some w) = σ') (q : D.nx σ' H) : tAsg te (gName k) D σ H := s_set (ev ▸ h) e q
theorem g_nameE {k : Nat} {Q : L2.St → Hp → Prop} (ev : v = w) (e : σ.set k (some w) = σ') (q : Q σ' H) : gName k v σ H Q := g_name (by rw [ev]; exact e) q
theorem s_aug {k : Nat} {f : Int → Int → Int} {m n p : Int} (hx : σ[k]? = some (some (.int m))) (h : Val te σ H (.int n)) (en : f m n = p) (e : σ.set k (some (.int p)) = σ') (q : D.nx σ' H) : tAug k te (ipI f) D σ H :=
  ⟨_, hx, h _ ⟨m, n, rfl, rfl, by rw [en]; show D.nx (List.set σ k (some (.int p))) H; rw [e]; exact q⟩⟩
/-! ### None or data -/
theorem nn_int : V.int i ≠ .non := fun z => nomatch z
theorem nn_bl : V.bl b ≠ .non := fun z => nomatch z
theorem nn_str {s : Str} : V.str s ≠ .non := fun z => nomatch z
theorem nn_lst {xs : List α} (r : (yLst τ).rep K H F v xs) : v ≠ .non := by obtain ⟨a, vs, rfl, _⟩ := r; exact fun z => nomatch z
theorem nn_tupl {xs : List α} (r : (yTupL τ).rep K H F v xs) : v ≠ .non := by obtain ⟨a, vs, rfl, _⟩ := r; exact fun z => nomatch z
theorem nn_tup {ts : Tys α} {d : α} (r : (yTup ts).rep K H F v d) : v ≠ .non := by obtain ⟨a, vs, rfl, _⟩ := r; exact fun z => nomatch z
theorem opt_some {d : Option α} {x : α} (r : (yOpt τ).rep K H F v d) (h : d = some x) : τ.rep K H F v x := by subst h; exact r.2
theorem opt_int {d : Option Int} {x : Int} (r : (yOpt yInt).rep K H F v d) (h : d = some x) : F = [] ∧ v = .int x := opt_some r h
theorem opt_bool {d : Option Bool} {x : Bool} (r : (yOpt yBool).rep K H F v d) (h : d = some x) : F = [] ∧ v = .bl x := opt_some r h
theorem opt_str {d : Option (List Nat)} {x : List Nat} (r : (yOpt yStr).rep K H F v d) (h : d = some x) : F = [] ∧ v = .str (toS x) := opt_some r h
theorem opt_dec {d : Option α} (r : (yOpt τ).rep K H F v d) : decide (v = .non) = d.isNone := by
  cases d with
  | none => obtain ⟨_, rfl⟩ := r; rfl
  | some x => exact decide_eq_false r.1
theorem opt_decN {d : Option α} (r : (yOpt τ).rep K H F v d) : (!decide (v = .non)) = d.isSome := by
  rw [opt_dec r]; cases d <;> rfl
theorem val_isN {d : Option α} (r : (yOpt τ).rep K H F v d) (ha : Val ta σ H v) : Val (tOp rIsN ta (tC .non)) σ H (.bl d.isNone) := val_op ha val_c fun Q q => ⟨rfl, by rw [opt_dec r]; exact q⟩
theorem val_notN {d : Option α} (r : (yOpt τ).rep K H F v d) (ha : Val ta σ H v) : Val (tOp rNotN ta (tC .non)) σ H (.bl d.isSome) := val_op ha val_c fun Q q => ⟨rfl, by rw [opt_decN r]; exact q⟩
theorem w_isN {d : Option α} (r : (yOpt τ).rep K H F v d) (k : Q (.bl d.isNone) H) : rIsN v .non H Q := ⟨rfl, by rw [opt_dec r]; exact k⟩
theorem w_notN {d : Option α} (r : (yOpt τ).rep K H F v d) (k : Q (.bl d.isSome) H) : rNotN v .non H Q := ⟨rfl, by rw [opt_decN r]; exact k⟩
/-! ### footprints -/
theorem Dj.app (d1 : Dj F1 G) (d2 : Dj F2 G) : Dj (F1 ++ F2) G := fun a h => (List.mem_append.mp h).elim (d1 a) (d2 a)
theorem app_fresh {H0 : Hp} (n1 : ∀ a ∈ F1, H0 a = none) (n2 : ∀ a ∈ F2, H0 a = none) : ∀ a ∈ F1 ++ F2, H0 a = none := fun a h => (List.mem_append.mp h).elim (n1 a) (n2 a)
theorem nil_fresh {H0 : Hp} : ∀ a ∈ ([] : List Addr), H0 a = none := fun a h => nomatch h
def Fz {α : Type} (τ : Ty α) : Prop := ∀ {K : PySem.W.Frag} {H : Hp} {F : List Addr} {v : V} {d : α}, τ.rep K H F v d → F = []
def Fzs {α : Type} (τ : Tys α) : Prop := ∀ {K : PySem.W.Frag} {H : Hp} {F : List Addr} {v : List V} {d : α}, τ.rep K H F v d → F = []
theorem fz_int : Fz yInt := fun h => h.1
theorem fz_bool : Fz yBool := fun h => h.1
theorem fz_str : Fz yStr := fun h => h.1
theorem fz_none : Fz yNon := fun h => h.1
theorem fz_scr : Fz yScr := fun h => h.1
theorem fz_tupl {τ : Ty α} : Fz (yTupL τ) := fun h => by obtain ⟨_, _, _, e, _⟩ := h; exact e
theorem fz_opt {τ : Ty α} (z : Fz τ) : Fz (yOpt τ) := fun {K H F v d} h => by
  cases d with
  | none => exact h.1
  | some x => exact z h.2
theorem fzs_one {τ : Ty α} (z : Fz τ) : Fzs (sOne τ) := fun h => by obtain ⟨_, _, r⟩ := h; exact z r
theorem fzs_cons {τ : Ty α} {ts : Tys β} (z : Fz τ) (zs : Fzs ts) : Fzs (sCons τ ts) := fun h => by
  obtain ⟨_, _, F1, F2, _, e, r, q⟩ := h
  rw [e, z r, zs q]; rfl
theorem fz_tup {ts : Tys α} (z : Fzs ts) : Fz (yTup ts) := fun h => by obtain ⟨_, _, _, _, r⟩ := h; exact z r
def LenS {α : Type} (ts : Tys α) (n : Nat) : Prop := ∀ {K : PySem.W.Frag} {H : Hp} {F : List Addr} {vs : List V} {d : α}, ts.rep K H F vs d → vs.length = n
theorem lens_one {τ : Ty α} : LenS (sOne τ) 1 := fun h => by obtain ⟨_, e, _⟩ := h; rw [e]; rfl
theorem lens_cons {τ : Ty α} {ts : Tys β} {n : Nat} (z : LenS ts n) : LenS (sCons τ ts) (n + 1) := fun h => by
  obtain ⟨_, _, _, _, e, _, _, q⟩ := h
  rw [e, List.length_cons, z q]
theorem val_lenU {ts : Tys α} {d : α} {n : Nat} (l : LenS ts n) (r : (yTup ts).rep K H F v d) (ha : Val ta σ H v) : Val (tCB (rLenQ K) (tCons ta tNil)) σ H (.int (n : Int)) := by
  obtain ⟨p, vs, rfl, s, q⟩ := r
  exact fun Q k => ha _ ⟨p, vs, rfl, .inr s, by rw [l q]; exact k⟩
/-! ### unpacking -/
theorem g_names {Q : L2.St → Hp → Prop} {σ1 : L2.St} (e : σ1 = σ') (k : Q σ' H) : Q σ1 H := e ▸ k
theorem g_tup2 {β : Type} {τ1 : Ty α} {τ2 : Ty β} {d : α × β} {i1 i2 : Nat} {Q : L2.St → Hp → Prop} (r : (yTup (sCons τ1 (sOne τ2))).rep K H [] v d)
    (k : ∀ u1 u2, τ1.rep K H [] u1 d.1 → τ2.rep K H [] u2 d.2 → Q ((σ.set i1 (some u1)).set i2 (some u2)) H) : gTup K 2 (gCons (gName i1) (gCons (gName i2) gNil)) v σ H Q := by
  obtain ⟨a, vs, rfl, s, v1, ws, F1, F2, rfl, e, r1, v2, rfl, r2⟩ := r
  obtain ⟨rfl, rfl⟩ : F1 = [] ∧ F2 = [] := List.append_eq_nil_iff.mp e.symm
  exact ⟨a, _, rfl, s, rfl, v1, _, rfl, v2, _, rfl, rfl, k v1 v2 r1 r2⟩
theorem g_tup3 {β γ : Type} {τ1 : Ty α} {τ2 : Ty β} {τ3 : Ty γ} {d : α × β × γ} {i1 i2 i3 : Nat} {Q : L2.St → Hp → Prop} (r : (yTup (sCons τ1 (sCons τ2 (sOne τ3)))).rep K H [] v d)
    (k : ∀ u1 u2 u3, τ1.rep K H [] u1 d.1 → τ2.rep K H [] u2 d.2.1 → τ3.rep K H [] u3 d.2.2 → Q (((σ.set i1 (some u1)).set i2 (some u2)).set i3 (some u3)) H) : gTup K 3 (gCons (gName i1) (gCons (gName i2) (gCons (gName i3) gNil))) v σ H Q := by
  obtain ⟨a, vs, rfl, s, v1, ws, F1, F2, rfl, e, r1, v2, ws2, F3, F4, rfl, e2, r2, v3, rfl, r3⟩ := r
  obtain ⟨rfl, rfl⟩ : F1 = [] ∧ F2 = [] := List.append_eq_nil_iff.mp e.symm
  obtain ⟨rfl, rfl⟩ : F3 = [] ∧ F4 = [] := List.append_eq_nil_iff.mp e2.symm
  exact ⟨a, _, rfl, s, rfl, v1, _, rfl, v2, _, rfl, v3, _, rfl, rfl, k v1 v2 v3 r1 r2 r3⟩
theorem g_tup4 {β γ δ : Type} {τ1 : Ty α} {τ2 : Ty β} {τ3 : Ty γ} {τ4 : Ty δ} {d : α × β × γ × δ} {i1 i2 i3 i4 : Nat} {Q : L2.St → Hp → Prop} (r : (yTup (sCons τ1 (sCons τ2 (sCons τ3 (sOne τ4))))).rep K H [] v d)
    (k : ∀ u1 u2 u3 u4, τ1.rep K H [] u1 d.1 → τ2.rep K H [] u2 d.2.1 → τ3.rep K H [] u3 d.2.2.1 → τ4.rep K H [] u4 d.2.2.2 → Q ((((σ.set i1 (some u1)).set i2 (some u2)).set i3 (some u3)).set i4 (some u4)) H) : gTup K 4 (gCons (gName i1) (gCons (gName i2) (gCons (gName i3) (gCons (gName i4) gNil)))) v σ H Q := by
  obtain ⟨a, vs, rfl, s, v1, ws, F1, F2, rfl, e, r1, v2, ws2, F3, F4, rfl, e2, r2, v3, ws3, F5, F6, rfl, e3, r3, v4, rfl, r4⟩ := r
  obtain ⟨rfl, rfl⟩ : F1 = [] ∧ F2 = [] := List.append_eq_nil_iff.mp e.symm
  obtain ⟨rfl, rfl⟩ : F3 = [] ∧ F4 = [] := List.append_eq_nil_iff.mp e2.symm
  obtain ⟨rfl, rfl⟩ : F5 = [] ∧ F6 = [] := List.append_eq_nil_iff.mp e3.symm
  exact ⟨a, _, rfl, s, rfl, v1, _, rfl, v2, _, rfl, v3, _, rfl, v4, _, rfl, rfl, k v1 v2 v3 v4 r1 r2 r3 r4⟩
/-! ### range(lo, hi, -1) -/
theorem w_iRng3 {ts : TA} {R : It → Hp → Prop} (h : ts σ H fun vs H1 => ∃ (i j c : Int) (n : Nat), vs = [.int i, .int j, .int c] ∧ RgC i j c n ∧ R (Itc i c n) H1) : iRng3 ts σ H R := h
theorem l_rngD {g : TG} {tb : TS} {nx : L2.St → Hp → Prop} {lo hi : Int} {xs : List Int} (hg : Mi.rngDownO lo hi = some xs) (Pv : Nat → L2.St → Hp → Prop) (h0 : Pv 0 σ H)
    (hs : ∀ (i : Nat) (x : Int) σ' H', xs[i]? = some x → Pv i σ' H' → g (.int x) σ' H' fun σ2 H2 => tb { D with nx := Pv (i + 1), ct := Pv (i + 1), bk := nx } σ2 H2) (hd : ∀ σ' H', Pv xs.length σ' H' → nx σ' H') :
    ∃ (i j c : Int) (n : Nat), [V.int lo, V.int hi, V.int (-1)] = [.int i, .int j, .int c] ∧ RgC i j c n ∧ LoopG (Itc i c n) g tb D nx σ H := by
  unfold Mi.rngDownO at hg
  split at hg
  · rename_i hc
    obtain rfl := Option.some.inj hg
    have hl : (Mi.rngDown lo hi).length = (lo - hi).toNat := by unfold Mi.rngDown; rw [List.length_map, List.length_range]
    refine ⟨lo, hi, -1, (lo - hi).toNat, rfl, RgC.neg (by omega) (by omega) (by omega) (by omega), ?_⟩
    refine for_rangeC (D := { D with nx := nx }) (lo := lo) (c := -1) (n := (lo - hi).toNat) Pv h0 (fun i σ' H' hi' p => hs i _ σ' H' ?_ p) (fun σ' H' p => hd σ' H' (by rw [hl]; exact p))
    unfold Mi.rngDown
    rw [List.getElem?_map, List.getElem?_range hi']
    show some (lo - (i : Int)) = some (lo + (i : Int) * -1)
    congr 1
    omega
  · cases hg
end
end G
namespace G
open PySem PySem.Spec PyProof.Rows L2
/-- the def at one address is one def -/
theorem fn_law {P : Program} {w : World} {K : PySem.W.Frag} {mg : Str → Option Value} {x : Str} {k : Nat} {sp : Sp} {fa : Addr} (hfa : mg x = some (.ref fa)) {p : Str} (c : Cal P w K mg x [p] k sp) :
    ∃ fd : FuncData, (∀ (s : Shared) (v : Value), BindsTo s fd ⟨[v], []⟩ [(p, v)]) ∧ ∀ base : Heap, K.In base → base.Ns mainGlobals mg → FnOk P w K mg base CX0 k fa fd [p] sp := by
  obtain ⟨f, fd, g, _, b, ok⟩ := c.ex
  obtain rfl : fa = f := Value.ref.inj (Option.some.inj (hfa.symm.trans g))
  exact ⟨fd, fun s v => b s [v] rfl, fun base _ _ => ok base⟩
end G

namespace G
open PySem PySem.Spec PyProof.Rows L2
section
variable {K : PySem.W.Frag} {σ σ' : L2.St} {H : Hp} {F F1 F2 : List Addr} {ta tb te : TE} {v u x y w : V} {i j : Int} {t tu tt : TT} {b c a : Bool} {α β : Type} {τ : Ty α} {υ : Ty β} {Q : VK} {D : Ends} {t1 t2 : TS} {g : TG} {ws : List Nat}
/-! ### list comprehensions -/
/-- y goes to the list at D, then N -/
def AppG (D : Addr) (N : Hp → Prop) (y : V) (H : Hp) : Prop := ∃ acc, H D = some (.lst acc) ∧ acc.length < sizeLine ∧ N (upd H D (.lst (acc ++ [y])))
/-- one turn: the new list at D grows or not, then N -/
def TurnG (g : TG) (tt : TT) (te : TE) (ws : List Nat) (σ : L2.St) (D : Addr) (N : Hp → Prop) (x : V) (H : Hp) : Prop :=
  g x (wipe σ ws) H fun σ2 H2 => wipe σ2 ws = wipe σ ws ∧ tt σ2 H2 fun b H3 => if b = true then te σ2 H3 (AppG D N) else N H3
def CompG (J : It) (g : TG) (tt : TT) (te : TE) (ws : List Nat) (σ : L2.St) (H : Hp) (Q : VK) : Prop := ∀ D, H D = none → ∃ W : Nat → Nat → Hp → Prop, (∃ m, W 0 m (upd H D (.lst []))) ∧ ∀ i m H, W i m H →
  (J.stop i H ∧ Q (.ref D) H) ∨ (J.go i H ∧ ∃ N : Hp → Prop, (∀ H', N H' → ∃ m', m' < m ∧ W (i + 1) m' H') ∧ ∀ x H', J.yld i H x H' → TurnG g tt te ws σ D N x H')
theorem w_lc {wi : TI} (h : wi σ H fun J H1 => CompG J g tt te ws σ H1 Q) : tLc wi g tt te ws σ H Q := h
theorem w_yes {Q : Bool → Hp → Prop} (h : Q true H) : tYes σ H Q := h
theorem empty_lst {p : Addr} (np : H p = none) : (yLst τ).rep K (upd H p (.lst [])) [p] (.ref p) [] := ⟨p, [], rfl, rfl, upd_same, .nil⟩
theorem comp_by {J : It} (n : Nat) (Pv : Addr → Nat → Hp → Prop) (h0 : ∀ D H', H D = none → Chg [] H H' → (yLst τ).rep K H' [D] (.ref D) [] → Pv D 0 H')
    (hs : ∀ D i H', i < n → Pv D i H' → J.go i H' ∧ ∀ x H2, J.yld i H' x H2 → TurnG g tt te ws σ D (Pv D (i + 1)) x H2) (hd : ∀ D H', H D = none → Pv D n H' → J.stop n H' ∧ Q (.ref D) H') : CompG J g tt te ws σ H Q := by
  intro D hD
  refine ⟨fun i m H' => m = n - i ∧ i ≤ n ∧ Pv D i H', ⟨n, by omega, Nat.zero_le _, h0 D _ hD (Chg.new hD) (empty_lst hD)⟩, ?_⟩
  rintro i m H' ⟨rfl, hi, p⟩
  by_cases hlt : i < n
  · obtain ⟨h1, h2⟩ := hs D i H' hlt p
    exact .inr ⟨h1, Pv D (i + 1), fun H2 p' => ⟨n - (i + 1), by omega, rfl, hlt, p'⟩, h2⟩
  · obtain rfl : i = n := by omega
    exact .inl (hd D H' hD p)
theorem kc_lst {xs : List β} (r : (yLst υ).rep K H F v xs) (Pv : Addr → Nat → Hp → Prop) (h0 : ∀ D H', H D = none → Chg [] H H' → (yLst τ).rep K H' [D] (.ref D) [] → Pv D 0 H') (hl : ∀ D i H', Pv D i H' → (yLst υ).rep K H' F v xs)
    (hs : ∀ D (i : Nat) (x : β) (u : V) H', xs[i]? = some x → υ.rep K H' [] u x → Pv D i H' → TurnG g tt te ws σ D (Pv D (i + 1)) u H') (hd : ∀ D H', H D = none → Pv D xs.length H' → Q (.ref D) H') :
    ∃ a, v = .ref a ∧ (∃ xs, SqL K H a xs) ∧ CompG (Itl K a) g tt te ws σ H Q := by
  obtain ⟨a, vs, e, s, q⟩ := lst_sq r
  refine ⟨a, e, ⟨vs, s⟩, comp_by (K := K) (τ := τ) xs.length Pv h0 (fun D i H' hi p => ?_) (fun D H' hD p => ?_)⟩
  · obtain ⟨a', vs', e', s', q'⟩ := lst_sq (hl D i H' p)
    obtain rfl : a = a' := by rw [e] at e'; exact V.ref.inj e'
    obtain ⟨u, hu, ru⟩ := pr_get q' (List.getElem?_eq_getElem hi)
    refine ⟨⟨vs', u, s', hu⟩, fun x H2 y => ?_⟩
    obtain ⟨rfl, y⟩ := y
    obtain rfl : x = u := Option.some.inj ((y _ s').symm.trans hu)
    exact hs D i _ _ _ (List.getElem?_eq_getElem hi) ru p
  · obtain ⟨a', vs', e', s', q'⟩ := lst_sq (hl D _ H' p)
    obtain rfl : a = a' := by rw [e] at e'; exact V.ref.inj e'
    exact ⟨⟨vs', s', by rw [pr_len q']; exact Nat.le_refl _⟩, hd D H' hD p⟩
theorem kc_tup {xs : List β} (r : (yTupL υ).rep K H F v xs) (Pv : Addr → Nat → Hp → Prop) (h0 : ∀ D H', H D = none → Chg [] H H' → (yLst τ).rep K H' [D] (.ref D) [] → Pv D 0 H') (hl : ∀ D i H', Pv D i H' → (yTupL υ).rep K H' F v xs)
    (hs : ∀ D (i : Nat) (x : β) (u : V) H', xs[i]? = some x → υ.rep K H' [] u x → Pv D i H' → TurnG g tt te ws σ D (Pv D (i + 1)) u H') (hd : ∀ D H', H D = none → Pv D xs.length H' → Q (.ref D) H') :
    ∃ a, v = .ref a ∧ (∃ xs, SqT K H a xs) ∧ CompG (Itt K a) g tt te ws σ H Q := by
  obtain ⟨a, vs, e, s, q⟩ := tupl_sq r
  refine ⟨a, e, ⟨vs, s⟩, comp_by (K := K) (τ := τ) xs.length Pv h0 (fun D i H' hi p => ?_) (fun D H' hD p => ?_)⟩
  · obtain ⟨a', vs', e', s', q'⟩ := tupl_sq (hl D i H' p)
    obtain rfl : a = a' := by rw [e] at e'; exact V.ref.inj e'
    obtain ⟨u, hu, ru⟩ := pr_get q' (List.getElem?_eq_getElem hi)
    refine ⟨⟨vs', u, s', hu⟩, fun x H2 y => ?_⟩
    obtain ⟨rfl, y⟩ := y
    obtain rfl : x = u := Option.some.inj ((y _ s').symm.trans hu)
    exact hs D i _ _ _ (List.getElem?_eq_getElem hi) ru p
  · obtain ⟨a', vs', e', s', q'⟩ := tupl_sq (hl D _ H' p)
    obtain rfl : a = a' := by rw [e] at e'; exact V.ref.inj e'
    exact ⟨⟨vs', s', by rw [pr_len q']; exact Nat.le_refl _⟩, hd D H' hD p⟩
theorem kc_rng {lo hi : Int} (Pv : Addr → Nat → Hp → Prop) (h0 : ∀ D H', H D = none → Chg [] H H' → (yLst τ).rep K H' [D] (.ref D) [] → Pv D 0 H')
    (hs : ∀ D (i : Nat) (x : Int) H', (Mi.rng lo hi)[i]? = some x → Pv D i H' → TurnG g tt te ws σ D (Pv D (i + 1)) (.int x) H') (hd : ∀ D H', H D = none → Pv D (Mi.rng lo hi).length H' → Q (.ref D) H') :
    CompG (Itr lo (hi - lo).toNat) g tt te ws σ H Q := by
  refine comp_by (K := K) (τ := τ) (hi - lo).toNat Pv h0 (fun D i H' hi' p => ⟨hi', fun x H2 y => ?_⟩) (fun D H' hD p => ⟨Nat.le_refl _, hd D H' hD (by rw [rng_len]; exact p)⟩)
  obtain ⟨rfl, rfl⟩ := y
  exact hs D i _ _ (rng_at hi') p
theorem kc_rng1 {hi : Int} {xs : List Int} (hg : Mi.rngO 0 hi = some xs) (Pv : Addr → Nat → Hp → Prop) (h0 : ∀ D H', H D = none → Chg [] H H' → (yLst τ).rep K H' [D] (.ref D) [] → Pv D 0 H')
    (hs : ∀ D (i : Nat) (x : Int) H', xs[i]? = some x → Pv D i H' → TurnG g tt te ws σ D (Pv D (i + 1)) (.int x) H') (hd : ∀ D H', H D = none → Pv D xs.length H' → Q (.ref D) H') :
    ∃ j : Int, [V.int hi] = [.int j] ∧ -(2 ^ 62) ≤ j ∧ j < 2 ^ 62 ∧ CompG (Itr 0 j.toNat) g tt te ws σ H Q := by
  obtain ⟨rfl, _, h1, h2⟩ := rngO_some hg
  refine ⟨hi, rfl, by omega, by omega, ?_⟩
  have e : hi.toNat = (hi - 0).toNat := by rw [Int.sub_zero]
  rw [e]
  exact kc_rng (K := K) (τ := τ) Pv h0 hs hd
theorem kc_rng2 {lo hi : Int} {xs : List Int} (hg : Mi.rngO lo hi = some xs) (Pv : Addr → Nat → Hp → Prop) (h0 : ∀ D H', H D = none → Chg [] H H' → (yLst τ).rep K H' [D] (.ref D) [] → Pv D 0 H')
    (hs : ∀ D (i : Nat) (x : Int) H', xs[i]? = some x → Pv D i H' → TurnG g tt te ws σ D (Pv D (i + 1)) (.int x) H') (hd : ∀ D H', H D = none → Pv D xs.length H' → Q (.ref D) H') :
    ∃ i j : Int, [V.int lo, V.int hi] = [.int i, .int j] ∧ (-(2 ^ 62) ≤ i ∧ i < 2 ^ 62 ∧ -(2 ^ 62) ≤ j ∧ j < 2 ^ 62) ∧ CompG (Itr i (j - i).toNat) g tt te ws σ H Q := by
  obtain ⟨rfl, h1, h2⟩ := rngO_some hg
  exact ⟨lo, hi, rfl, by omega, kc_rng (K := K) (τ := τ) Pv h0 hs hd⟩
/-- the item is put to the new list -/
theorem e_app {D : Addr} {N : Hp → Prop} {xs ys : List α} {d : α} (r : (yLst τ).rep K H [D] (.ref D) xs) (ru : τ.rep K H [] u d) (hm : Mi.app xs d = some ys) (k : ∀ H', Chg [D] H H' → (yLst τ).rep K H' [D] (.ref D) ys → N H') :
    AppG D N u H := by
  obtain ⟨p, vs, e, f, g, q⟩ := r
  obtain rfl : D = p := V.ref.inj e
  unfold Mi.app at hm
  split at hm
  · rename_i hz
    cases hm
    have c : Chg [D] H (upd H D (.lst (vs ++ [u]))) := Chg.wr g (fun z => z)
    exact ⟨vs, g, Nat.lt_of_lt_of_le (by rw [pr_len q]; exact hz) line_big, k _ c ⟨D, _, rfl, rfl, upd_same, pr_app (Paired.mapP q fun _ _ z => Ty.fz z c) (.cons (Ty.fz ru c) .nil)⟩⟩
  · cases hm
/-! ### + of lists, slices, list(..), tuple(..) -/
theorem w_cat {xs ys zs : List α} (r : (yLst τ).rep K H F1 v xs) (q : (yLst τ).rep K H F2 u ys) (hm : Mi.cat xs ys = some zs) (k : ∀ p H', H p = none → Chg [] H H' → (yLst τ).rep K H' [p] (.ref p) zs → Q (.ref p) H') : rCat v u H Q := by
  obtain ⟨p, vs, rfl, rfl, g, r1⟩ := r
  obtain ⟨p2, us, rfl, rfl, g2, r2⟩ := q
  unfold Mi.cat at hm
  split at hm
  · rename_i hz
    cases hm
    refine ⟨p, p2, vs, us, rfl, rfl, g, g2, sz (by rw [pr_len r1, pr_len r2]; exact hz), fun n nn => k n _ nn (Chg.new nn) ⟨n, _, rfl, rfl, upd_same, ?_⟩⟩
    exact Paired.mapP (pr_app r1 r2) fun _ _ z => Ty.ex z (Chg.new nn)
  · cases hm
theorem w_sl {r : V → Option Int → Option Int → Hp → VK → Prop} {tl th : TO} (h : te σ H fun x H1 => tl σ H1 fun l H2 => th σ H2 fun u H3 => r x l u H3 Q) : tSl r te tl th σ H Q := h
theorem w_pon {Q : Option Int → Hp → Prop} (h : Q none H) : tNoPart σ H Q := h
theorem w_pos {Q : Option Int → Hp → Prop} (h : te σ H fun x H1 => ∃ i, x = .int i ∧ Q (some i) H1) : tPart te σ H Q := h
theorem sl_l {X : Cx} {K : PySem.W.Frag} (e : X.K = K := by rfl) : SlR X (rSlL K) := by subst e; exact sl_list
theorem cut_eq {α : Type} (xs : List α) (lo hi : Option Int) : (xs.drop (HT.sIx xs.length 0 lo)).take (HT.sIx xs.length xs.length hi - HT.sIx xs.length 0 lo) = Mi.cut xs lo hi := by
  have e : ∀ n d o, HT.sIx n d o = Mi.sIx n d o := fun n d o => by cases o <;> rfl
  unfold Mi.cut
  rw [e, e]
theorem pr_cut {R : V → α → Prop} {vs : List V} {xs : List α} (r : Paired R vs xs) (lo hi : Option Int) : Paired R (cutV vs lo hi) (Mi.cut xs lo hi) := by
  rw [← cut_eq]
  unfold cutV
  rw [pr_len r]
  exact pr_take _ (pr_drop _ r)
theorem w_cutL {xs : List α} {lo hi : Option Int} (r : (yLst τ).rep K H F v xs) (k : ∀ p H', H p = none → Chg [] H H' → (yLst τ).rep K H' [p] (.ref p) (Mi.cut xs lo hi) → Q (.ref p) H') : rSlL K v lo hi H Q := by
  obtain ⟨p, vs, rfl, s, q⟩ := lst_sq r
  refine ⟨p, vs, rfl, s, fun n nn => k n _ nn (Chg.new nn) ⟨n, _, rfl, rfl, upd_same, ?_⟩⟩
  exact Paired.mapP (pr_cut q lo hi) fun _ _ z => Ty.ex z (Chg.new nn)
def rListQ (K : PySem.W.Frag) : List V → Hp → VK → Prop := fun xs H Q => ∃ p ys, xs = [.ref p] ∧ (SqL K H p ys ∨ SqT K H p ys) ∧ ∀ l, H l = none → Q (.ref l) (upd H l (.lst ys))
def rTupleQ (K : PySem.W.Frag) : List V → Hp → VK → Prop := fun xs H Q => ∃ p ys, xs = [.ref p] ∧ ((SqL K H p ys ∧ ∀ l, H l = none → Q (.ref l) (upd H l (.tup ys))) ∨ (SqT K H p ys ∧ Q (.ref p) H))
theorem cl_list {X : Cx} {K : PySem.W.Frag} (e : X.K = K := by rfl) : CallR X (.type "list") (rListQ K) := by subst e; exact call_list_of
theorem cl_tuple {X : Cx} {K : PySem.W.Frag} (e : X.K = K := by rfl) : CallR X (.type "tuple") (rTupleQ K) := by subst e; exact call_tuple_of
theorem w_listL {xs : List α} (r : (yLst τ).rep K H F v xs) (k : ∀ p H', H p = none → Chg [] H H' → (yLst τ).rep K H' [p] (.ref p) xs → Q (.ref p) H') : rListQ K [v] H Q := by
  obtain ⟨p, vs, rfl, s, q⟩ := lst_sq r
  exact ⟨p, vs, rfl, .inl s, fun n nn => k n _ nn (Chg.new nn) ⟨n, _, rfl, rfl, upd_same, Paired.mapP q fun _ _ z => Ty.ex z (Chg.new nn)⟩⟩
theorem w_listT {xs : List α} (r : (yTupL τ).rep K H F v xs) (k : ∀ p H', H p = none → Chg [] H H' → (yLst τ).rep K H' [p] (.ref p) xs → Q (.ref p) H') : rListQ K [v] H Q := by
  obtain ⟨p, vs, rfl, s, q⟩ := tupl_sq r
  exact ⟨p, vs, rfl, .inr s, fun n nn => k n _ nn (Chg.new nn) ⟨n, _, rfl, rfl, upd_same, Paired.mapP q fun _ _ z => Ty.ex z (Chg.new nn)⟩⟩
theorem w_tupleL {xs : List α} (r : (yLst τ).rep K H F v xs) (k : ∀ v H', Chg [] H H' → (yTupL τ).rep K H' [] v xs → Q v H') : rTupleQ K [v] H Q := by
  obtain ⟨p, vs, rfl, s, q⟩ := lst_sq r
  exact ⟨p, vs, rfl, .inl ⟨s, fun n nn => k _ _ (Chg.new nn) ⟨n, _, rfl, rfl, .inl (.inl upd_same), Paired.mapP q fun _ _ z => Ty.ex z (Chg.new nn)⟩⟩⟩
theorem w_tupleT {xs : List α} (r : (yTupL τ).rep K H F v xs) (k : ∀ v H', Chg [] H H' → (yTupL τ).rep K H' [] v xs → Q v H') : rTupleQ K [v] H Q := by
  obtain ⟨p, vs, rfl, s, q⟩ := tupl_sq r
  exact ⟨p, vs, rfl, .inr ⟨s, k _ _ (Chg.refl H) ⟨p, vs, rfl, rfl, s, q⟩⟩⟩
/-! ### in -/
theorem op_in_q {X : Cx} {K : PySem.W.Frag} (e : X.K = K := by rfl) : OpR X (compareOp .In) (rIn K false) := by subst e; exact op_in_seq
theorem op_ni_q {X : Cx} {K : PySem.W.Frag} (e : X.K = K := by rfl) : OpR X (compareOp .NotIn) (rIn K true) := by subst e; exact op_notIn_seq
theorem flat_ints (ns : List Int) : (ns.map V.int).all flatV = true := by
  rw [List.all_eq_true]
  intro x hx
  obtain ⟨n, _, rfl⟩ := List.mem_map.mp hx
  rfl
theorem in_ints (n : Int) : ∀ ns : List Int, inV (.int n) (ns.map V.int) = ns.contains n
  | [] => rfl
  | m :: ns => by
    have ih := in_ints n ns
    unfold inV at ih ⊢
    rw [List.map_cons, List.any_cons, List.contains_cons, ih]
    congr 1
    show (m == n) = (n == m)
    by_cases h : m = n
    · subst h; rfl
    · rw [beq_eq_false_iff_ne.mpr h, beq_eq_false_iff_ne.mpr (Ne.symm h)]
theorem ints_sqL {xs : List Int} (r : (yLst yInt).rep K H F v xs) : ∃ a, v = .ref a ∧ SqL K H a (xs.map V.int) := by
  obtain ⟨a, vs, e, s, q⟩ := lst_sq r
  rw [ints_of q] at s
  exact ⟨a, e, s⟩
theorem ints_sqT {xs : List Int} (r : (yTupL yInt).rep K H F v xs) : ∃ a, v = .ref a ∧ SqT K H a (xs.map V.int) := by
  obtain ⟨a, vs, e, s, q⟩ := tupl_sq r
  rw [ints_of q] at s
  exact ⟨a, e, s⟩
theorem w_inL {xs : List Int} (r : (yLst yInt).rep K H F v xs) (k : Q (.bl (xs.contains i)) H) : rIn K false (.int i) v H Q := by
  obtain ⟨a, rfl, s⟩ := ints_sqL r
  exact ⟨a, _, rfl, .inl s, rfl, flat_ints xs, by rw [if_neg Bool.false_ne_true, in_ints]; exact k⟩
theorem w_niL {xs : List Int} (r : (yLst yInt).rep K H F v xs) (k : Q (.bl (!xs.contains i)) H) : rIn K true (.int i) v H Q := by
  obtain ⟨a, rfl, s⟩ := ints_sqL r
  exact ⟨a, _, rfl, .inl s, rfl, flat_ints xs, by rw [if_pos rfl, in_ints]; exact k⟩
theorem w_inT {xs : List Int} (r : (yTupL yInt).rep K H F v xs) (k : Q (.bl (xs.contains i)) H) : rIn K false (.int i) v H Q := by
  obtain ⟨a, rfl, s⟩ := ints_sqT r
  exact ⟨a, _, rfl, .inr s, rfl, flat_ints xs, by rw [if_neg Bool.false_ne_true, in_ints]; exact k⟩
theorem w_niT {xs : List Int} (r : (yTupL yInt).rep K H F v xs) (k : Q (.bl (!xs.contains i)) H) : rIn K true (.int i) v H Q := by
  obtain ⟨a, rfl, s⟩ := ints_sqT r
  exact ⟨a, _, rfl, .inr s, rfl, flat_ints xs, by rw [if_pos rfl, in_ints]; exact k⟩
theorem val_inL {xs : List Int} (r : (yLst yInt).rep K H F v xs) (ha : Val ta σ H (.int i)) (hb : Val tb σ H v) : Val (tOp (rIn K false) ta tb) σ H (.bl (xs.contains i)) := val_op ha hb fun Q q => w_inL r q
theorem val_niL {xs : List Int} (r : (yLst yInt).rep K H F v xs) (ha : Val ta σ H (.int i)) (hb : Val tb σ H v) : Val (tOp (rIn K true) ta tb) σ H (.bl (!xs.contains i)) := val_op ha hb fun Q q => w_niL r q
theorem val_inT {xs : List Int} (r : (yTupL yInt).rep K H F v xs) (ha : Val ta σ H (.int i)) (hb : Val tb σ H v) : Val (tOp (rIn K false) ta tb) σ H (.bl (xs.contains i)) := val_op ha hb fun Q q => w_inT r q
theorem val_niT {xs : List Int} (r : (yTupL yInt).rep K H F v xs) (ha : Val ta σ H (.int i)) (hb : Val tb σ H v) : Val (tOp (rIn K true) ta tb) σ H (.bl (!xs.contains i)) := val_op ha hb fun Q q => w_niT r q
end
end G

namespace G
open PySem PySem.Spec PyProof.Rows L2
/-! ### instances -/
theorem lookup_zip {f : Str} : ∀ {ns : List Str} {vs : List V} {n : Nat} {u : V}, ns.Nodup → ns[n]? = some f → vs[n]? = some u → (ns.zip vs).lookup f = some u
  | [], _, _, _, _, h, _ => by simp at h
  | _ :: _, [], _, _, _, _, h => by simp at h
  | m :: ns, w :: vs, 0, u, nd, h, h2 => by
    obtain rfl : m = f := by simpa using h
    obtain rfl : w = u := by simpa using h2
    simp [List.lookup]
  | m :: ns, w :: vs, n + 1, u, nd, h, h2 => by
    have hne : (f == m) = false := by
      rw [beq_eq_false_iff_ne]
      intro e
      subst e
      have h3 : ns[n]? = some f := by simpa using h
      exact (List.nodup_cons.mp nd).1 (List.mem_of_getElem? h3)
    rw [List.zip_cons_cons]
    simp only [List.lookup, hne]
    exact lookup_zip (List.nodup_cons.mp nd).2 (by simpa using h) (by simpa using h2)
def yObj {α : Type} (C : Addr) (ns : List Str) (ts : Tys α) : Ty α where
  rep K H F v d := F = [] ∧ ∃ a dx vs, v = .ref a ∧ H a = some (.ins C dx (ns.zip vs)) ∧ done (ns.zip vs) = true ∧ ts.rep K H [] vs d
  keep {K H H' F v d} h k := by
    obtain ⟨e, a, dx, vs, e2, g, f, r⟩ := h
    exact ⟨e, a, dx, vs, e2, k a _ g (.inr f), f, ts.keep r fun b o hb z => k b o hb (z.elim (fun y => nomatch y) .inr)⟩
  dom {K H F v d} h b m := by rw [h.1] at m; cases m
/-- an instance that its __init__ has begun: the attributes ns hold the values ws -/
def yPart (C dx : Addr) (ns : List Str) : Ty (List V) where
  rep K H F v ws := ∃ x, v = .ref x ∧ F = [x] ∧ H x = some (.ins C dx (ns.zip ws)) ∧ done (ns.zip ws) = false
  keep {K H H' F v ws} h k := by
    obtain ⟨x, e, rfl, g, f⟩ := h
    exact ⟨x, e, rfl, k x _ g (.inl (List.mem_singleton.mpr rfl)), f⟩
  dom {K H F v ws} h b m := by
    obtain ⟨x, e, rfl, g, f⟩ := h
    rw [List.mem_singleton] at m; subst m
    exact ⟨_, g, fun z => by have z' : done _ = true := z; rw [f] at z'; cases z'⟩
section
variable {K : PySem.W.Frag} {σ σ' : L2.St} {H : Hp} {F : List Addr} {ta tb te tv : TE} {v u x y w : V} {α β : Type} {τ : Ty α} {Q : VK} {D : Ends} {t1 t2 : TS} {C dx p : Addr} {ns : List Str} {f : Str}
theorem fz_obj {ts : Tys α} : Fz (yObj C ns ts) := fun h => h.1
theorem nn_obj {ts : Tys α} {d : α} (r : (yObj C ns ts).rep K H F v d) : v ≠ .non := by obtain ⟨_, a, _, _, rfl, _⟩ := r; exact fun z => nomatch z
/-- o.f: what is asked of the value o -/
def FldG (K : PySem.W.Frag) (f : Str) (x : V) (H : Hp) (Q : VK) : Prop := ∃ a C dx fs v, x = .ref a ∧ H a = some (.ins C dx fs) ∧ Cls K C ∧ NoAttr K C f ∧ fs.lookup f = some v ∧ Q v H
theorem w_fld (h : ta σ H fun x H1 => FldG K f x H1 Q) : tFld K ta f σ H Q := h
theorem fld_obj {ts : Tys α} {n : Nat} {υ : Ty β} {pr : α → β} {d : α} (A : At ts n υ pr) (nd : ns.Nodup) (hn : ns[n]? = some f) (c : Cls K C) (na : NoAttr K C f) (r : (yObj C ns ts).rep K H F v d) :
    ∃ u, υ.rep K H [] u (pr d) ∧ (∀ {Q : VK}, Q u H → FldG K f v H Q) ∧ ∀ {σ : L2.St} {ta : TE}, Val ta σ H v → Val (tFld K ta f) σ H u := by
  obtain ⟨_, a, dx, vs, rfl, g, _, rs⟩ := r
  obtain ⟨u, F1, e, ru, sub⟩ := A rs
  have e1 : F1 = [] := by
    cases F1 with
    | nil => rfl
    | cons z zs => exact nomatch sub z (List.mem_cons_self ..)
  subst e1
  have k : ∀ {Q : VK}, Q u H → FldG K f (.ref a) H Q := fun q => ⟨a, C, dx, _, u, rfl, g, c, na, lookup_zip nd hn e, q⟩
  exact ⟨u, ru, k, fun ha Q q => ha _ (k q)⟩
theorem fld_part {ws : List V} {n : Nat} (nd : ns.Nodup) (hn : ns[n]? = some f) (hw : ws[n]? = some u) (c : Cls K C) (na : NoAttr K C f) (r : (yPart C dx ns).rep K H F v ws) (ha : Val ta σ H v) : Val (tFld K ta f) σ H u := by
  obtain ⟨a, rfl, _, g, _⟩ := r
  exact fun Q q => ha _ ⟨a, C, dx, _, u, rfl, g, c, na, lookup_zip nd hn hw, q⟩
/-- self.f = e -/
def SFldG (K : PySem.W.Frag) (f : Str) (y x : V) (H : Hp) (X : Hp → Prop) : Prop := ∃ a C dx fs, x = .ref a ∧ H a = some (.ins C dx fs) ∧ Cls K C ∧ NoAttr K C f ∧ fs.length < 1000 ∧ X (upd H a (.ins C dx (putF f y fs)))
theorem q_fld (h : tv σ H fun y H1 => ta σ H1 fun x H2 => SFldG K f y x H2 (t2 D σ)) : tSeq (sFld K ta tv f) t2 D σ H := h
theorem putF_zip {f : Str} {y : V} : ∀ {ns : List Str} {ws : List V}, f ∉ ns → ns.length = ws.length → putF f y (ns.zip ws) = (ns ++ [f]).zip (ws ++ [y])
  | [], [], _, _ => rfl
  | [], _ :: _, _, h => by simp at h
  | _ :: _, [], _, h => by simp at h
  | m :: ns, w :: ws, hf, h => by
    have hne : f ≠ m := fun e => hf (by rw [e]; exact List.mem_cons_self ..)
    have ih := putF_zip (f := f) (y := y) (ns := ns) (ws := ws) (fun z => hf (List.mem_cons_of_mem _ z)) (by simpa using h)
    rw [List.zip_cons_cons]
    show putF f y ((m, w) :: ns.zip ws) = _
    unfold putF
    split
    · rename_i e
      exact absurd (by simpa using e) (by first | exact hne | exact (Ne.symm hne))
    · rw [ih]; rfl
theorem m_fldP {ws : List V} {X : Hp → Prop} (r : (yPart C dx ns).rep K H F v ws) (c : Cls K C) (na : NoAttr K C f) (hf : f ∉ ns) (hl : ns.length = ws.length) (hs : ns.length < 900) (hd : done ((ns ++ [f]).zip (ws ++ [y])) = false)
    (k : ∀ H', Chg F H H' → (yPart C dx (ns ++ [f])).rep K H' F v (ws ++ [y]) → X H') : SFldG K f y v H X := by
  obtain ⟨a, rfl, rfl, g, nf⟩ := r
  have cc : Chg [a] H (upd H a (.ins C dx (putF f y (ns.zip ws)))) := Chg.wr g (fun z => by have z' : done _ = true := z; rw [nf] at z'; cases z')
  refine ⟨a, C, dx, _, rfl, g, c, na, by rw [List.length_zip, ← hl]; omega, k _ cc ⟨a, rfl, rfl, ?_, hd⟩⟩
  rw [upd_same, putF_zip hf hl]
theorem m_fldE {ws : List V} {X : Hp → Prop} {ts : Tys α} {d : α} (r : (yPart C dx ns).rep K H F v ws) (c : Cls K C) (na : NoAttr K C f) (hf : f ∉ ns) (hl : ns.length = ws.length) (hs : ns.length < 900) (hd : done ((ns ++ [f]).zip (ws ++ [y])) = true)
    (rs : ts.rep K H [] (ws ++ [y]) d) (k : ∀ H', Chg F H H' → (yObj C (ns ++ [f]) ts).rep K H' [] v d → X H') : SFldG K f y v H X := by
  obtain ⟨a, rfl, rfl, g, nf⟩ := r
  have cc : Chg [a] H (upd H a (.ins C dx (putF f y (ns.zip ws)))) := Chg.wr g (fun z => by have z' : done _ = true := z; rw [nf] at z'; cases z')
  refine ⟨a, C, dx, _, rfl, g, c, na, by rw [List.length_zip, ← hl]; omega, k _ cc ⟨rfl, a, dx, _, rfl, ?_, hd, ts.keep rs fun b o hb z => cc.keep b o hb (z.elim (fun y => nomatch y) .inr)⟩⟩
  rw [upd_same, putF_zip hf hl]
/-- C(..): the new instance -/
def MakeG (C : Addr) (sp : Sp) (E : XK) (vs : V → List V) (H : Hp) (Q : VK) : Prop := ∀ x dx, H x = none → H dx = none → dx ≠ x → sp (vs (.ref x)) (upd (upd H dx (.own x)) x (.ins C dx [])) (fun v H3 => v = .non ∧ Q (.ref x) H3) E
theorem make_new {x : Addr} (nx : H x = none) (nd : H dx = none) (ne : dx ≠ x) : Chg [] H (upd (upd H dx (.own x)) x (.ins C dx [])) ∧ (yPart C dx []).rep K (upd (upd H dx (.own x)) x (.ins C dx [])) [x] (.ref x) [] :=
  ⟨(Chg.new nd).trans (Chg.new (by rw [upd_ne (Ne.symm ne)]; exact nx)), x, rfl, rfl, upd_same, rfl⟩
theorem tInt_tup {d : Int} : True := trivial
end
end G
namespace G
open PySem PySem.Spec PyProof.Rows L2
/-- what the top leaves of a class -/
structure Tx (K : PySem.W.Frag) (mg : Str → Option Value) (C : Addr) (x : Str) (ns : List Str) : Prop where
  cls : Cls K C
  mgC : mg x = some (.ref C)
  na : ∀ f ∈ ns, NoAttr K C f
structure CalM (P : Program) (w : World) (K : PySem.W.Frag) (mg : Str → Option Value) (C : Addr) (m : Str) (ps : List Str) (k : Nat) (sp : Sp) : Prop where
  ex : ∃ f fd, Meth K C m f ∧ (∀ (s : Shared) (us : List Value), us.length = ps.length → BindsTo s fd ⟨us, []⟩ (ps.zip us)) ∧ ∀ base : Heap, FnOk P w K mg base CX0 k f fd ps sp
structure CalI (P : Program) (w : World) (K : PySem.W.Frag) (mg : Str → Option Value) (C : Addr) (qual : Str) (st : Stmt) (kws : List (Str × V)) (ps : List Str) (k : Nat) (sp : Sp) : Prop where
  ex : ∃ f fd, Mk K C f ∧ FunD K "__init__" qual (defArgs st) (defBody st) (defScope st) [] kws f fd ∧ ∀ base : Heap, FnOk P w K mg base CX0 k f fd ps sp
structure DfnM (K : PySem.W.Frag) (C : Addr) (m qual : Str) (st : Stmt) : Prop where
  ex : ∃ f fd, Fun K m qual st f fd ∧ Meth K C m f
structure DfnI (K : PySem.W.Frag) (C : Addr) (qual : Str) (st : Stmt) (kws : List (Str × V)) : Prop where
  ex : ∃ f fd, FunD K "__init__" qual (defArgs st) (defBody st) (defScope st) [] kws f fd ∧ Mk K C f
section
variable {X : Cx} {K : PySem.W.Frag} {σ : L2.St} {H : Hp} {F : List Addr} {ta te : TE} {v : V} {α : Type} {Q : VK} {C : Addr} {ns : List Str} {m : Str}
def MethG (C : Addr) (m : Str) (x : V) (H : Hp) (R : Prop) : Prop := ∃ a dx fs, x = .ref a ∧ H a = some (.ins C dx fs) ∧ fs.lookup m = none ∧ R
theorem w_meth {sp : Sp} {E : XK} {ts : TA} (h : ta σ H fun x H1 => MethG C m x H1 (ts σ H1 fun vs H2 => sp (x :: (vs ++ [])) H2 Q E)) : tMeth C m sp [] E ta ts σ H Q := h
theorem lookup_none {f : Str} : ∀ {ns : List Str} {vs : List V}, f ∉ ns → (ns.zip vs).lookup f = none
  | [], _, _ => rfl
  | _ :: _, [], _ => rfl
  | m :: ns, w :: vs, h => by
    have hne : (f == m) = false := by
      rw [beq_eq_false_iff_ne]
      exact fun e => h (by rw [e]; exact List.mem_cons_self ..)
    rw [List.zip_cons_cons]
    simp only [List.lookup, hne]
    exact lookup_none fun z => h (List.mem_cons_of_mem _ z)
theorem meth_obj {ts : Tys α} {d : α} {R : Prop} (r : (yObj C ns ts).rep K H F v d) (hm : m ∉ ns) (k : R) : MethG C m v H R := by
  obtain ⟨_, a, dx, vs, rfl, g, _, _⟩ := r
  exact ⟨a, dx, _, rfl, g, lookup_none hm, k⟩
theorem w_makeK {n k : Nat} {sp : Sp} {gV : List V → List V → List V} {E : XK} {t tk : TA} (h : t σ H fun vs H1 => tk σ H1 fun zs H2 => vs.length = n ∧ zs.length = k ∧ MakeG C sp E (fun x => gV (x :: vs) zs) H2 Q) : tMakeK C n k sp gV E t tk σ H Q := h
theorem w_mk {sp : Sp} {E : XK} {t : TA} {dvs : List V} (h : t σ H fun vs H1 => MakeG C sp E (fun x => x :: (vs ++ dvs)) H1 Q) : tMake C sp dvs E t σ H Q := h
theorem pe_cm {ps : List Str} {j k : Nat} {sp : Sp} {pl : Sem Bool} {apos pos : Pos} {o e : Expr} {es : List Expr} {t : TA} (he : PE X o ta) (c : Cls X.K C) (M : CalM X.prog X.w X.K X.mg C m ps j sp) (hr : Room k X.A) (ha : PA X (e :: es) t) (hj : j ≤ k := by decide)
    (h1 : ∀ {f : Addr} {fd : FuncData}, FnOk X.prog X.w X.K X.mg X.base CX0 j f fd ps sp → Meth X.K C m f → Binds X.K fd ps [] → Room j X.A → PE X (.Call (.Attribute o m apos) (e :: es) [] pos) (tMeth C m sp [] E0 ta t)) : PE X (.Call (.Attribute o m apos) (e :: es) [] pos) (tMeth C m sp [] E0 ta t) := by
  obtain ⟨f, fd, hm, b, F⟩ := M.ex
  exact h1 (F X.base) hm (fun s us _ hl => by rw [List.append_nil] at hl ⊢; exact b s us hl) (hr.mono hj)
end
end G

namespace G
open PySem PySem.Spec PyProof.Rows L2
section
variable {K : PySem.W.Frag} {σ σ' : L2.St} {H : Hp} {F F1 F2 Fu : List Addr} {ta tb te : TE} {v u x y : V} {i j : Int} {t tu tt : TT} {b c a : Bool} {α β : Type} {τ : Ty α} {υ : Ty β} {Q : VK} {D : Ends} {t1 t2 : TS} {g : TG} {ws : List Nat}
/-! ### shifts -/
theorem shlC {i j r : Int} (h : Mi.shl i j = some r) : CPow i j ∧ i * 2 ^ j.toNat = r := by
  unfold Mi.shl at h
  split at h
  · rename_i hc
    exact ⟨⟨hc.1, by omega, by omega⟩, Option.some.inj h⟩
  · cases h
theorem shrC {i j r : Int} (h : Mi.shr i j = some r) : 0 ≤ j ∧ i / 2 ^ j.toNat = r := by
  unfold Mi.shr at h
  split at h
  · exact ⟨by assumption, Option.some.inj h⟩
  · cases h
theorem val_shlO {r : Int} (ha : Val ta σ H (.int i)) (hb : Val tb σ H (.int j)) (h : Mi.shl i j = some r) : Val (tOp (rI CPow fun i j => .int (i * 2 ^ j.toNat)) ta tb) σ H (.int r) := val_is (val_I (g := fun i j => .int (i * 2 ^ j.toNat)) ha hb (shlC h).1) (by rw [← (shlC h).2])
theorem val_shrO {r : Int} (ha : Val ta σ H (.int i)) (hb : Val tb σ H (.int j)) (h : Mi.shr i j = some r) : Val (tOp (rI (fun _ j => 0 ≤ j) fun i j => .int (i / 2 ^ j.toNat)) ta tb) σ H (.int r) := val_is (val_I (g := fun i j => .int (i / 2 ^ j.toNat)) ha hb (shrC h).1) (by rw [← (shrC h).2])
theorem w_shl {r : Int} (h : Mi.shl i j = some r) (k : Q (.int r) H) : rI CPow (fun i j => .int (i * 2 ^ j.toNat)) (.int i) (.int j) H Q := ⟨i, j, rfl, rfl, (shlC h).1, by show Q (.int (i * 2 ^ j.toNat)) H; rw [(shlC h).2]; exact k⟩
theorem w_shr {r : Int} (h : Mi.shr i j = some r) (k : Q (.int r) H) : rI (fun _ j => 0 ≤ j) (fun i j => .int (i / 2 ^ j.toNat)) (.int i) (.int j) H Q := ⟨i, j, rfl, rfl, (shrC h).1, by show Q (.int (i / 2 ^ j.toNat)) H; rw [(shrC h).2]; exact k⟩
/-! ### sorted -/
theorem cl_sortedL {X : Cx} {K : PySem.W.Frag} (e : X.K = K := by rfl) : CallR X (.builtin "sorted") (rSortedI K) := by subst e; exact cr_sortedI
theorem sortI_perm (xs : List Int) : (Mi.sortI xs).Perm xs := List.mergeSort_perm _ _
theorem sortI_sorted (xs : List Int) : (Mi.sortI xs).Pairwise (· ≤ ·) := by
  have h := List.pairwise_mergeSort (le := fun a b : Int => decide (a ≤ b)) (fun a b c h1 h2 => by simp at *; omega) (fun a b => by simp; omega) xs
  exact List.Pairwise.imp (fun h => by simpa using h) h
theorem sorted_unique : ∀ {xs ys : List Int}, xs.Perm ys → xs.Pairwise (· ≤ ·) → ys.Pairwise (· ≤ ·) → xs = ys
  | [], ys, p, _, _ => (List.Perm.nil_eq p)
  | x :: xs, [], p, _, _ => absurd p.length_eq (by simp)
  | x :: xs, y :: ys, p, h1, h2 => by
    have hx := List.pairwise_cons.mp h1
    have hy := List.pairwise_cons.mp h2
    have e : x = y := by
      have a1 : y ∈ x :: xs := p.mem_iff.mpr (List.mem_cons_self ..)
      have a2 : x ∈ y :: ys := p.mem_iff.mp (List.mem_cons_self ..)
      rcases List.mem_cons.mp a1 with r | r
      · exact r.symm
      · rcases List.mem_cons.mp a2 with q | q
        · exact q
        · have := hx.1 y r
          have := hy.1 x q
          omega
    subst e
    rw [sorted_unique (List.Perm.cons_inv p) hx.2 hy.2]
theorem w_sortedL {xs : List Int} (r : (yLst yInt).rep K H F v xs) (k : ∀ p H', H p = none → Chg [] H H' → (yLst yInt).rep K H' [p] (.ref p) (Mi.sortI xs) → Q (.ref p) H') : rSortedI K [v] H Q := by
  obtain ⟨p, rfl, s⟩ := ints_sqL r
  refine ⟨p, xs, rfl, s, fun ns q pm so nq => ?_⟩
  rw [sorted_unique (pm.trans (sortI_perm xs).symm) so (sortI_sorted xs)]
  exact k q _ nq (Chg.new nq) ⟨q, _, rfl, rfl, upd_same, ints_mk _⟩
/-! ### sets of ints -/
def ySet (w : World) : Ty (List Int) where
  rep K H F v xs := ∃ a, v = .ref a ∧ F = [a] ∧ H a = some (SetO w a (fun i => xs.contains i) xs.length)
  keep {K H H' F v xs} h k := by
    obtain ⟨a, e, rfl, g⟩ := h
    exact ⟨a, e, rfl, k a _ g (.inl (List.mem_singleton.mpr rfl))⟩
  dom {K H F v xs} h b m := by
    obtain ⟨a, e, rfl, g⟩ := h
    rw [List.mem_singleton] at m; subst m
    exact ⟨_, g, fun z => z⟩
theorem cl_set0 {X : Cx} {w : World} (e : X.w = w := by rfl) : CallR X (.type "set") (rSet0 w) := by subst e; exact cr_set0
theorem w_set0 {w : World} (k : ∀ p H', H p = none → Chg [] H H' → (ySet w).rep K H' [p] (.ref p) [] → Q (.ref p) H') : rSet0 w [] H Q := ⟨rfl, fun p np => k p _ np (Chg.new np) ⟨p, rfl, rfl, upd_same⟩⟩
theorem op_in_s {X : Cx} {w : World} (e : X.w = w := by rfl) : OpR X (compareOp .In) (rSIn w) := by subst e; exact or_sin
theorem op_ni_s {X : Cx} {w : World} (e : X.w = w := by rfl) : OpR X (compareOp .NotIn) (rSNotIn w) := by subst e; exact or_snotin
theorem w_inS {w : World} {xs : List Int} (r : (ySet w).rep K H F v xs) (k : Q (.bl (xs.contains i)) H) : rSIn w (.int i) v H Q := by
  obtain ⟨p, rfl, rfl, g⟩ := r
  exact ⟨i, p, _, _, rfl, rfl, g, k⟩
theorem w_niS {w : World} {xs : List Int} (r : (ySet w).rep K H F v xs) (k : Q (.bl (!xs.contains i)) H) : rSNotIn w (.int i) v H Q := by
  obtain ⟨p, rfl, rfl, g⟩ := r
  exact ⟨i, p, _, _, rfl, rfl, g, k⟩
theorem val_inS {w : World} {xs : List Int} (r : (ySet w).rep K H F v xs) (ha : Val ta σ H (.int i)) (hb : Val tb σ H v) : Val (tOp (rSIn w) ta tb) σ H (.bl (xs.contains i)) := val_op ha hb fun Q q => w_inS r q
theorem val_niS {w : World} {xs : List Int} (r : (ySet w).rep K H F v xs) (ha : Val ta σ H (.int i)) (hb : Val tb σ H v) : Val (tOp (rSNotIn w) ta tb) σ H (.bl (!xs.contains i)) := val_op ha hb fun Q q => w_niS r q
theorem w_sadd {w : World} {to : TE} {ts : TA} (h : to σ H fun x H1 => (∃ a S n, x = V.ref a ∧ H1 a = some (SetO w a S n)) ∧ ts σ H1 fun xs H2 => rSAdd w x xs H2 Q) : tSAdd w to ts σ H Q := h
theorem tyv_set {w : World} {xs : List Int} (r : (ySet w).rep K H F v xs) : ∃ a S n, v = V.ref a ∧ H a = some (SetO w a S n) := by
  obtain ⟨p, rfl, rfl, g⟩ := r
  exact ⟨p, _, _, rfl, g⟩
theorem m_sadd {w : World} {xs ys : List Int} (r : (ySet w).rep K H F v xs) (hm : Mi.sadd xs i = some ys) (k : ∀ H', Chg F H H' → (ySet w).rep K H' F v ys → Q .non H') : rSAdd w v [.int i] H Q := by
  obtain ⟨p, rfl, rfl, g⟩ := r
  unfold Mi.sadd at hm
  split at hm
  · rename_i hz
    obtain rfl := Option.some.inj hm
    refine ⟨p, i, _, _, rfl, rfl, g, by show xs.length + 1 < 4096; omega, ?_⟩
    refine k _ (Chg.wr g (fun z => z)) ⟨p, rfl, rfl, ?_⟩
    rw [upd_same]
    congr 1
    by_cases hc : xs.contains i = true
    · have e1 : (fun j => xs.contains j || decide (j = i)) = fun j => xs.contains j := by
        funext j
        by_cases hj : j = i
        · subst hj; rw [hc]; rfl
        · rw [decide_eq_false hj, Bool.or_false]
      rw [if_pos hc, if_pos hc]
      show SetO w p (fun j => xs.contains j || decide (j = i)) _ = _
      rw [e1]
    · rw [if_neg hc, if_neg hc]
      have e1 : (fun j => xs.contains j || decide (j = i)) = fun j => (xs ++ [i]).contains j := by
        funext j
        rw [List.contains_eq_mem, List.contains_eq_mem]
        by_cases hj : j = i
        · subst hj; simp
        · simp [hj]
      show SetO w p (fun j => xs.contains j || decide (j = i)) _ = _
      rw [e1, List.length_append]
      rfl
  · cases hm
/-! ### lists by their methods -/
theorem m_clear {xs : List α} (r : (yLst τ).rep K H F v xs) (k : ∀ H', Chg F H H' → (yLst τ).rep K H' F v [] → Q .non H') : rClear v [] H Q := by
  obtain ⟨p, vs, rfl, rfl, g, q⟩ := r
  exact ⟨p, vs, rfl, rfl, g, k _ (Chg.wr g (fun z => z)) ⟨p, [], rfl, rfl, upd_same, .nil⟩⟩
theorem pr_rev {R : V → α → Prop} : ∀ {vs : List V} {xs : List α}, Paired R vs xs → Paired R vs.reverse xs.reverse
  | _, _, .nil => .nil
  | _, _, .cons r t => by
    rw [List.reverse_cons, List.reverse_cons]
    exact pr_app (pr_rev t) (.cons r .nil)
theorem m_reverse {xs : List α} (r : (yLst τ).rep K H F v xs) (k : ∀ H', Chg F H H' → (yLst τ).rep K H' F v xs.reverse → Q .non H') : rReverse v [] H Q := by
  obtain ⟨p, vs, rfl, rfl, g, q⟩ := r
  have c : Chg [p] H (upd H p (.lst vs.reverse)) := Chg.wr g (fun z => z)
  exact ⟨p, vs, rfl, rfl, g, k _ c ⟨p, _, rfl, rfl, upd_same, Paired.mapP (pr_rev q) fun _ _ z => Ty.fz z c⟩⟩
theorem pr_dropLast {R : V → α → Prop} {vs : List V} {xs : List α} (r : Paired R vs xs) : Paired R vs.dropLast xs.dropLast := by
  rw [List.dropLast_eq_take, List.dropLast_eq_take, pr_len r]
  exact pr_take _ r
theorem pr_erase {R : V → α → Prop} {vs : List V} {xs : List α} (r : Paired R vs xs) (n : Nat) : Paired R (vs.eraseIdx n) (xs.eraseIdx n) := by
  rw [List.eraseIdx_eq_take_drop_succ, List.eraseIdx_eq_take_drop_succ]
  exact pr_app (pr_take _ r) (pr_drop _ r)
theorem m_pop {xs : List α} {p : α × List α} (r : (yLst τ).rep K H F v xs) (hm : Mi.popL xs = some p) (k : ∀ u H', Chg F H H' → τ.rep K H' [] u p.1 → (yLst τ).rep K H' F v p.2 → Q u H') : rPop v [] H Q := by
  obtain ⟨l, vs, rfl, rfl, g, q⟩ := r
  unfold Mi.popL at hm
  obtain ⟨y, hy, hm⟩ := Mi.bnd hm
  obtain rfl := Option.some.inj hm
  obtain ⟨u, hu, ru⟩ := pr_get q hy
  have c : Chg [l] H (upd H l (.lst vs.dropLast)) := Chg.wr g (fun z => z)
  exact ⟨l, vs, u, rfl, rfl, g, by rw [pr_len q]; exact hu, k u _ c (Ty.fz ru c) ⟨l, _, rfl, rfl, upd_same, Paired.mapP (pr_dropLast q) fun _ _ z => Ty.fz z c⟩⟩
theorem m_popAt {xs : List α} {p : α × List α} (r : (yLst τ).rep K H F v xs) (hm : Mi.popAt xs i = some p) (hb : xs.length ≤ Mi.big) (k : ∀ u H', Chg F H H' → τ.rep K H' [] u p.1 → (yLst τ).rep K H' F v p.2 → Q u H') : rPopAt v [.int i] H Q := by
  obtain ⟨l, vs, rfl, rfl, g, q⟩ := r
  unfold Mi.popAt at hm
  obtain ⟨j, hj, hm⟩ := Mi.bnd hm
  obtain ⟨y, hy, hm⟩ := Mi.bnd hm
  obtain rfl := Option.some.inj hm
  obtain ⟨u, hu, ru⟩ := pr_get q hy
  have c : Chg [l] H (upd H l (.lst (vs.eraseIdx j))) := Chg.wr g (fun z => z)
  obtain ⟨h1, h2, h3, h4⟩ := ixN_seq (show L2.ixN vs.length i = some j by rw [pr_len q]; exact hj)
  have hb2 : vs.length ≤ 1000000 := by rw [pr_len q]; exact hb
  exact ⟨l, vs, i, j, u, rfl, rfl, g, by omega, by omega, h1, hu, k u _ c (Ty.fz ru c) ⟨l, _, rfl, rfl, upd_same, Paired.mapP (pr_erase q j) fun _ _ z => Ty.fz z c⟩⟩
end
end G

namespace G
open PySem PySem.Spec PyProof.Rows L2
/-! ### a list whose items may hold lists -/
def Sub (F G : List Addr) : Prop := ∀ b ∈ F, b ∈ G
def yLsg {α : Type} (τ : Ty α) : Ty (List α) where
  rep K H F v xs := ∃ a vs G, v = .ref a ∧ F = a :: G ∧ a ∉ G ∧ H a = some (.lst vs) ∧ (∀ b ∈ G, ∃ o, H b = some o ∧ ¬ Froz o) ∧ Paired (fun u x => ∃ Fi, τ.rep K H Fi u x ∧ Sub Fi G) vs xs
  keep {K H H' F v xs} h k := by
    obtain ⟨a, vs, G, e, rfl, na, g, dm, r⟩ := h
    refine ⟨a, vs, G, e, rfl, na, k a _ g (.inl (List.mem_cons_self ..)), fun b hb => ?_, Paired.mapP r fun u x q => ?_⟩
    · obtain ⟨o, ho, hf⟩ := dm b hb
      exact ⟨o, k b o ho (.inl (List.mem_cons_of_mem _ hb)), hf⟩
    · obtain ⟨Fi, ru, sb⟩ := q
      exact ⟨Fi, τ.keep ru fun b o hb z => k b o hb (z.imp (fun y => List.mem_cons_of_mem _ (sb b y)) id), sb⟩
  dom {K H F v xs} h b m := by
    obtain ⟨a, vs, G, e, rfl, na, g, dm, r⟩ := h
    rcases List.mem_cons.mp m with rfl | m
    · exact ⟨_, g, fun z => z⟩
    · exact dm b m
section
variable {K : PySem.W.Frag} {σ σ' : L2.St} {H : Hp} {F F1 F2 Fu : List Addr} {ta tb te : TE} {v u x y : V} {i j : Int} {t tu tt : TT} {b c a : Bool} {α β : Type} {τ : Ty α} {υ : Ty β} {Q : VK} {D : Ends} {t1 t2 : TS} {g : TG} {ws : List Nat}
theorem lsg_sq {xs : List α} (r : (yLsg τ).rep K H F v xs) : ∃ a vs, v = .ref a ∧ a ∈ F ∧ SqL K H a vs ∧ Paired (fun u x => ∃ Fi, τ.rep K H Fi u x ∧ Sub Fi F ∧ a ∉ Fi) vs xs := by
  obtain ⟨a, vs, G, e, rfl, na, g, dm, q⟩ := r
  exact ⟨a, vs, e, List.mem_cons_self .., .inl (.inl g), Paired.mapP q fun u x z => by
    obtain ⟨Fi, ru, sb⟩ := z
    exact ⟨Fi, ru, fun b hb => List.mem_cons_of_mem _ (sb b hb), fun hb => na (sb a hb)⟩⟩
theorem nn_lsg {xs : List α} (r : (yLsg τ).rep K H F v xs) : v ≠ .non := by obtain ⟨a, vs, G, rfl, _⟩ := r; exact fun z => nomatch z
theorem ty_lsg {xs : List α} (r : (yLsg τ).rep K H F v xs) : TyX K H v (.type "list") := by
  obtain ⟨a, vs, G, rfl, _, _, g, _⟩ := r
  exact .base (.lst g)
theorem tyv_lsg {xs : List α} (r : (yLsg τ).rep K H F v xs) : tyV K "list" v H := by
  obtain ⟨a, vs, rfl, _, s, q⟩ := lsg_sq r
  exact .inl ⟨rfl, _, s⟩
theorem val_lenG {xs : List α} (r : (yLsg τ).rep K H F v xs) (ha : Val ta σ H v) : Val (tCB (rLenQ K) (tCons ta tNil)) σ H (.int (xs.length : Int)) := by
  obtain ⟨a, vs, e, _, s, q⟩ := lsg_sq r
  subst e
  exact fun Q k => ha _ ⟨a, vs, rfl, .inl s, by rw [pr_len q]; exact k⟩
theorem w_lenG {xs : List α} (r : (yLsg τ).rep K H F v xs) (k : Q (.int (xs.length : Int)) H) : rLenQ K [v] H Q := by
  obtain ⟨a, vs, e, _, s, q⟩ := lsg_sq r
  subst e
  exact ⟨a, vs, rfl, .inl s, by rw [pr_len q]; exact k⟩
/-- the item's own value -/
theorem itm_G {xs : List α} {x : α} (r : (yLsg τ).rep K H F v xs) (h : Mi.at_ xs i = some x) :
    ∃ u Fi, τ.rep K H Fi u x ∧ Sub Fi F ∧ (∀ p, v = .ref p → p ∉ Fi) ∧ (∀ {Q : VK}, Q u H → rIxL K v (.int i) H Q) ∧ ∀ {σ : L2.St} {ta tb : TE}, Val ta σ H v → Val tb σ H (.int i) → Val (tOp (rIxL K) ta tb) σ H u := by
  obtain ⟨a, vs, e, _, s, q⟩ := lsg_sq r
  subst e
  obtain ⟨u, e, Fi, ru, sb, na⟩ := pr_at q h
  have k : ∀ {Q : VK}, Q u H → rIxL K (.ref a) (.int i) H Q := fun k => ⟨a, vs, i, u, rfl, rfl, s, e, k⟩
  exact ⟨u, Fi, ru, sb, fun p hp => by obtain rfl := V.ref.inj hp; exact na, k, fun ha hb => val_op ha hb fun Q q => k q⟩
/-- a new list of such items -/
theorem e_lsg {vs : List V} {xs : List α} {G : List Addr} (z : vs.length ≤ Mi.big) (dm : ∀ b ∈ G, ∃ o, H b = some o ∧ ¬ Froz o) (r : Paired (fun u x => ∃ Fi, τ.rep K H Fi u x ∧ Sub Fi G) vs xs)
    (k : ∀ p H', H p = none → Chg [] H H' → (yLsg τ).rep K H' (p :: G) (.ref p) xs → Q (.ref p) H') : LstG vs H Q := by
  refine ⟨sz z, fun p np => k p _ np (Chg.new np) ⟨p, vs, G, rfl, rfl, fun hp => ?_, upd_same, fun b hb => ?_, Paired.mapP r fun u x q => ?_⟩⟩
  · obtain ⟨o, ho, _⟩ := dm p hp
    rw [np] at ho; cases ho
  · obtain ⟨o, ho, hf⟩ := dm b hb
    exact ⟨o, by rw [upd_ne (ne_of_none ho np)]; exact ho, hf⟩
  · obtain ⟨Fi, ru, sb⟩ := q
    exact ⟨Fi, Ty.ex ru (Chg.new np), sb⟩
theorem Ty.dm {d : α} (r : τ.rep K H F v d) : ∀ b ∈ F, ∃ o, H b = some o ∧ ¬ Froz o := τ.dom r
theorem dm_nil : ∀ b ∈ ([] : List Addr), ∃ o, H b = some o ∧ ¬ Froz o := fun b h => nomatch h
theorem dm_app (d1 : ∀ b ∈ F1, ∃ o, H b = some o ∧ ¬ Froz o) (d2 : ∀ b ∈ F2, ∃ o, H b = some o ∧ ¬ Froz o) : ∀ b ∈ F1 ++ F2, ∃ o, H b = some o ∧ ¬ Froz o := fun b h => (List.mem_append.mp h).elim (d1 b) (d2 b)
/-- xs.append(e) -/
theorem m_appG {xs ys : List α} {d : α} (r : (yLsg τ).rep K H F v xs) (ru : τ.rep K H Fu u d) (ap : ∀ p, v = .ref p → p ∉ Fu) (hm : Mi.app xs d = some ys)
    (k : ∀ H' F', Chg F H H' → (yLsg τ).rep K H' F' v ys → Sub F F' → Sub F' (F ++ Fu) → Q .non H') : rAppend v [u] H Q := by
  obtain ⟨p, vs, G, rfl, rfl, na, g, dm, q⟩ := r
  have np : p ∉ Fu := ap p rfl
  unfold Mi.app at hm
  split at hm
  · rename_i hz
    cases hm
    have c : Chg [p] H (upd H p (.lst (vs ++ [u]))) := Chg.wr g (fun z => z)
    have kp : ∀ {γ : Type} {ρ : Ty γ} {Fi : List Addr} {w : V} {e : γ}, ρ.rep K H Fi w e → p ∉ Fi → ρ.rep K (upd H p (.lst (vs ++ [u]))) Fi w e := fun rr hn => Ty.chg rr c fun b hb z => by
      rw [List.mem_singleton] at z; subst z; exact hn hb
    refine ⟨p, vs, u, rfl, rfl, g, Nat.lt_of_lt_of_le (by rw [pr_len q]; exact hz) line_big, k _ (p :: (G ++ Fu)) (c.mono fun b hb => by rw [List.mem_singleton] at hb; subst hb; exact List.mem_cons_self ..) ⟨p, _, G ++ Fu, rfl, rfl, ?_, upd_same, ?_, ?_⟩ ?_ ?_⟩
    · intro hp
      exact (List.mem_append.mp hp).elim na np
    · intro b hb
      have hbp : b ≠ p := fun e => by subst e; exact (List.mem_append.mp hb).elim na np
      obtain ⟨o, ho, hf⟩ := dm_app dm (Ty.dm ru) b hb
      exact ⟨o, by rw [upd_ne hbp]; exact ho, hf⟩
    · refine pr_app (Paired.mapP q fun w e z => ?_) (.cons ⟨Fu, kp ru np, fun b hb => List.mem_append_right _ hb⟩ .nil)
      obtain ⟨Fi, rr, sb⟩ := z
      exact ⟨Fi, kp rr fun hp => na (sb p hp), fun b hb => List.mem_append_left _ (sb b hb)⟩
    · intro b hb
      rcases List.mem_cons.mp hb with rfl | hb
      · exact List.mem_cons_self ..
      · exact List.mem_cons_of_mem _ (List.mem_append_left _ hb)
    · intro b hb
      rcases List.mem_cons.mp hb with rfl | hb
      · exact List.mem_append_left _ (List.mem_cons_self ..)
      · rcases List.mem_append.mp hb with hb | hb
        · exact List.mem_append_left _ (List.mem_cons_of_mem _ hb)
        · exact List.mem_append_right _ hb
  · cases hm
theorem Dj.ap {p : Addr} (d : Dj F Fu) (hp : p ∈ F) : p ∉ Fu := d p hp
theorem ap_of {xs : List α} (r : (yLsg τ).rep K H F v xs) (d : Dj F Fu) : ∀ p, v = .ref p → p ∉ Fu := fun p e => by
  obtain ⟨a, vs, G, e2, rfl, _⟩ := r
  rw [e] at e2
  obtain rfl := V.ref.inj e2
  exact d p (List.mem_cons_self ..)
theorem Dj.grow {G' : List Addr} (d : Dj F1 F) (d2 : Dj F1 Fu) (s : Sub G' (F ++ Fu)) : Dj F1 G' := fun b hb z => (List.mem_append.mp (s b z)).elim (d b hb) (d2 b hb)
theorem fresh_grow {H0 : Hp} {G' : List Addr} (n1 : ∀ a ∈ F, H0 a = none) (n2 : ∀ a ∈ Fu, H0 a = none) (s : Sub G' (F ++ Fu)) : ∀ a ∈ G', H0 a = none := fun b hb => (List.mem_append.mp (s b hb)).elim (n1 b) (n2 b)
theorem fresh_cons {H0 : Hp} {p : Addr} (n1 : H0 p = none) (n2 : ∀ a ∈ F, H0 a = none) : ∀ a ∈ p :: F, H0 a = none := fun b hb => by
  rcases List.mem_cons.mp hb with rfl | hb
  · exact n1
  · exact n2 b hb
theorem Dj.consR {p : Addr} (d1 : Dj F [p]) (d2 : Dj F F2) : Dj F (p :: F2) := fun b hb z => by
  rcases List.mem_cons.mp z with rfl | z
  · exact d1 b hb (List.mem_singleton.mpr rfl)
  · exact d2 b hb z
theorem Dj.subR {G' : List Addr} (d : Dj F G') (s : Sub F1 G') : Dj F F1 := fun b hb z => d b hb (s b z)
/-- a loop over it -/
theorem l_lsg {g : TG} {tb : TS} {nx : L2.St → Hp → Prop} {xs : List α} (r : (yLsg τ).rep K H F v xs) (Pv : Nat → L2.St → Hp → Prop) (h0 : Pv 0 σ H) (hl : ∀ i σ' H', Pv i σ' H' → (yLsg τ).rep K H' F v xs)
    (hs : ∀ (i : Nat) (x : α) (u : V) (Fi : List Addr) σ' H', xs[i]? = some x → τ.rep K H' Fi u x → Sub Fi F → Pv i σ' H' → g u σ' H' fun σ2 H2 => tb { D with nx := Pv (i + 1), ct := Pv (i + 1), bk := nx } σ2 H2) (hd : ∀ σ' H', Pv xs.length σ' H' → nx σ' H') :
    ∃ a, v = .ref a ∧ (∃ xs, SqL K H a xs) ∧ LoopG (Itl K a) g tb D nx σ H := by
  obtain ⟨a, vs, e, _, s, q⟩ := lsg_sq r
  refine ⟨a, e, ⟨vs, s⟩, fun i m σ' H' => m = xs.length - i ∧ i ≤ xs.length ∧ Pv i σ' H', ⟨xs.length, by omega, Nat.zero_le _, h0⟩, ?_⟩
  rintro i m σ' H' ⟨rfl, hi, p⟩
  obtain ⟨a', vs', e', _, s', q'⟩ := lsg_sq (hl i σ' H' p)
  obtain rfl : a = a' := by rw [e] at e'; exact V.ref.inj e'
  by_cases hlt : i < xs.length
  · obtain ⟨u, hu, Fi, ru, sb, _⟩ := pr_get q' (List.getElem?_eq_getElem hlt)
    refine .inr ⟨⟨vs', u, s', hu⟩, Pv (i + 1), fun σ2 H2 p' => ⟨xs.length - (i + 1), by omega, rfl, hlt, p'⟩, fun x H2 y => ?_⟩
    obtain ⟨rfl, y⟩ := y
    obtain rfl : x = u := Option.some.inj ((y _ s').symm.trans hu)
    exact hs i _ _ Fi σ' _ (List.getElem?_eq_getElem hlt) ru sb p
  · obtain rfl : i = xs.length := by omega
    exact .inl ⟨⟨vs', s', by rw [pr_len q']; exact Nat.le_refl _⟩, hd σ' H' p⟩
theorem kc_lsg {xs : List β} (r : (yLsg υ).rep K H F v xs) (Pv : Addr → Nat → Hp → Prop) (h0 : ∀ D H', H D = none → Chg [] H H' → (yLst τ).rep K H' [D] (.ref D) [] → Pv D 0 H') (hl : ∀ D i H', Pv D i H' → (yLsg υ).rep K H' F v xs)
    (hs : ∀ D (i : Nat) (x : β) (u : V) (Fi : List Addr) H', xs[i]? = some x → υ.rep K H' Fi u x → Sub Fi F → Pv D i H' → TurnG g tt te ws σ D (Pv D (i + 1)) u H') (hd : ∀ D H', H D = none → Pv D xs.length H' → Q (.ref D) H') :
    ∃ a, v = .ref a ∧ (∃ xs, SqL K H a xs) ∧ CompG (Itl K a) g tt te ws σ H Q := by
  obtain ⟨a, vs, e, _, s, q⟩ := lsg_sq r
  refine ⟨a, e, ⟨vs, s⟩, comp_by (K := K) (τ := τ) xs.length Pv h0 (fun D i H' hi p => ?_) (fun D H' hD p => ?_)⟩
  · obtain ⟨a', vs', e', _, s', q'⟩ := lsg_sq (hl D i H' p)
    obtain rfl : a = a' := by rw [e] at e'; exact V.ref.inj e'
    obtain ⟨u, hu, Fi, ru, sb, _⟩ := pr_get q' (List.getElem?_eq_getElem hi)
    refine ⟨⟨vs', u, s', hu⟩, fun x H2 y => ?_⟩
    obtain ⟨rfl, y⟩ := y
    obtain rfl : x = u := Option.some.inj ((y _ s').symm.trans hu)
    exact hs D i _ _ Fi _ (List.getElem?_eq_getElem hi) ru sb p
  · obtain ⟨a', vs', e', _, s', q'⟩ := lsg_sq (hl D _ H' p)
    obtain rfl : a = a' := by rw [e] at e'; exact V.ref.inj e'
    exact ⟨⟨vs', s', by rw [pr_len q']; exact Nat.le_refl _⟩, hd D H' hD p⟩
theorem w_listG {xs : List α} (r : (yLsg τ).rep K H F v xs) (k : ∀ p H' F', H p = none → Chg [] H H' → (yLsg τ).rep K H' F' (.ref p) xs → Sub F' (p :: F) → Q (.ref p) H') : rListQ K [v] H Q := by
  obtain ⟨a, vs, G, rfl, rfl, na, g, dm, q⟩ := r
  refine ⟨a, vs, rfl, .inl (.inl (.inl g)), fun n nn => k n _ (n :: G) nn (Chg.new nn) ⟨n, vs, G, rfl, rfl, fun hp => ?_, upd_same, fun b hb => ?_, Paired.mapP q fun w e z => ?_⟩ fun b hb => ?_⟩
  · obtain ⟨o, ho, _⟩ := dm n hp
    rw [nn] at ho; cases ho
  · obtain ⟨o, ho, hf⟩ := dm b hb
    exact ⟨o, by rw [upd_ne (ne_of_none ho nn)]; exact ho, hf⟩
  · obtain ⟨Fi, rr, sb⟩ := z
    exact ⟨Fi, Ty.ex rr (Chg.new nn), sb⟩
  · rcases List.mem_cons.mp hb with rfl | hb
    · exact List.mem_cons_self ..
    · exact List.mem_cons_of_mem _ (List.mem_cons_of_mem _ hb)
end
/-! ### data compared as a whole -/
structure Dat {α : Type} (τ : Ty α) (n : Nat) where
  f : α → PyData
  dec : DecidableEq α
  dp : ∀ {K : PySem.W.Frag} {H : Hp} {F : List Addr} {v : V} {d : α}, τ.rep K H F v d → Dp K H v (f d)
  lay : ∀ d, (f d).canLay0 = true
  dpt : ∀ d, (f d).depth ≤ n
  eqv : ∀ d e, PyData.eqv (f d) (f e) = decide (d = e)
theorem beq_dec {α : Type} [DecidableEq α] [BEq α] [LawfulBEq α] (a b : α) : (a == b) = decide (a = b) := by
  by_cases h : a = b
  · subst h; simp
  · rw [decide_eq_false h]; simpa using h
def dat_int : Dat yInt 0 where
  f := .int
  dec := inferInstance
  dp := fun h => by obtain ⟨_, rfl⟩ := h; exact .int _
  lay := fun d => by simp [PyData.canLay0]
  dpt := fun d => by simp [PyData.depth]
  eqv := fun d e => by simp only [PyData.eqv]; exact beq_dec d e
def dat_bool : Dat yBool 0 where
  f := .bool
  dec := inferInstance
  dp := fun h => by obtain ⟨_, rfl⟩ := h; exact .bl _
  lay := fun d => by simp [PyData.canLay0]
  dpt := fun d => by simp [PyData.depth]
  eqv := fun d e => by simp only [PyData.eqv]; exact beq_dec d e
section
variable {α β : Type} {τ : Ty α} {n m : Nat}
theorem dpAll {K : PySem.W.Frag} {H : Hp} {R : V → α → Prop} {f : α → PyData} (h : ∀ u x, R u x → Dp K H u (f x)) : ∀ {vs : List V} {xs : List α}, Paired R vs xs → DpAll K H vs (xs.map f)
  | _, _, .nil => .nil
  | _, _, .cons r t => .cons (h _ _ r) (dpAll h t)
theorem layAll {f : α → PyData} (h : ∀ d, (f d).canLay0 = true) : ∀ xs : List α, PyData.canLayAll0 (xs.map f) = true
  | [] => by simp [PyData.canLayAll0]
  | x :: xs => by simp [PyData.canLayAll0, h x, layAll h xs]
theorem dptAll {f : α → PyData} (h : ∀ d, (f d).depth ≤ n) : ∀ xs : List α, PyData.depthAll (xs.map f) ≤ n
  | [] => by simp [PyData.depthAll]
  | x :: xs => by
    simp only [List.map_cons, PyData.depthAll]
    exact Nat.max_le.mpr ⟨h x, dptAll h xs⟩
theorem eqvAllL [DecidableEq α] {f : α → PyData} (h : ∀ d e, PyData.eqv (f d) (f e) = decide (d = e)) : ∀ xs ys : List α, PyData.eqvAll (xs.map f) (ys.map f) = decide (xs = ys)
  | [], [] => by simp [PyData.eqvAll]
  | [], y :: ys => by simp [PyData.eqvAll]
  | x :: xs, [] => by simp [PyData.eqvAll]
  | x :: xs, y :: ys => by
    simp only [List.map_cons, PyData.eqvAll, h x y, eqvAllL h xs ys]
    by_cases h1 : x = y
    · by_cases h2 : xs = ys
      · simp [h1, h2]
      · simp [h2]
    · simp [h1]
def dat_lst (d : Dat τ n) : Dat (yLst τ) (n + 1) where
  f := fun xs => .list (xs.map d.f)
  dec := @instDecidableEqList _ d.dec
  dp := fun h => by
    obtain ⟨a, vs, rfl, s, q⟩ := lst_sq h
    exact .lst s (dpAll (fun u x z => d.dp z) q)
  lay := fun xs => by simp only [PyData.canLay0]; exact layAll d.lay xs
  dpt := fun xs => by simp only [PyData.depth]; exact Nat.succ_le_succ (dptAll d.dpt xs)
  eqv := fun xs ys => by simp only [PyData.eqv]; exact @eqvAllL _ d.dec _ d.eqv xs ys
def dat_lsg (d : Dat τ n) : Dat (yLsg τ) (n + 1) where
  f := fun xs => .list (xs.map d.f)
  dec := @instDecidableEqList _ d.dec
  dp := fun h => by
    obtain ⟨a, vs, rfl, _, s, q⟩ := lsg_sq h
    exact .lst s (dpAll (fun u x z => by obtain ⟨Fi, ru, _⟩ := z; exact d.dp ru) q)
  lay := fun xs => by simp only [PyData.canLay0]; exact layAll d.lay xs
  dpt := fun xs => by simp only [PyData.depth]; exact Nat.succ_le_succ (dptAll d.dpt xs)
  eqv := fun xs ys => by simp only [PyData.eqv]; exact @eqvAllL _ d.dec _ d.eqv xs ys
def dat_tupl (d : Dat τ n) : Dat (yTupL τ) (n + 1) where
  f := fun xs => .tuple (xs.map d.f)
  dec := @instDecidableEqList _ d.dec
  dp := fun h => by
    obtain ⟨a, vs, rfl, s, q⟩ := tupl_sq h
    exact .tup s (dpAll (fun u x z => d.dp z) q)
  lay := fun xs => by simp only [PyData.canLay0]; exact layAll d.lay xs
  dpt := fun xs => by simp only [PyData.depth]; exact Nat.succ_le_succ (dptAll d.dpt xs)
  eqv := fun xs ys => by simp only [PyData.eqv]; exact @eqvAllL _ d.dec _ d.eqv xs ys
end
structure Sat {α : Type} (ts : Tys α) (n : Nat) where
  f : α → List PyData
  dec : DecidableEq α
  dp : ∀ {K : PySem.W.Frag} {H : Hp} {F : List Addr} {vs : List V} {d : α}, ts.rep K H F vs d → DpAll K H vs (f d)
  lay : ∀ d, PyData.canLayAll0 (f d) = true
  dpt : ∀ d, PyData.depthAll (f d) ≤ n
  eqv : ∀ d e, PyData.eqvAll (f d) (f e) = decide (d = e)
section
variable {α β : Type} {τ : Ty α} {ts : Tys β} {n m : Nat}
def sat_one (d : Dat τ n) : Sat (sOne τ) n where
  f := fun x => [d.f x]
  dec := d.dec
  dp := fun h => by obtain ⟨v, rfl, r⟩ := h; exact .cons (d.dp r) .nil
  lay := fun x => by simp [PyData.canLayAll0, d.lay x]
  dpt := fun x => by simp only [PyData.depthAll]; exact Nat.max_le.mpr ⟨d.dpt x, Nat.zero_le _⟩
  eqv := fun x y => by simp [PyData.eqvAll, d.eqv x y]
def sat_cons (d : Dat τ n) (s : Sat ts m) : Sat (sCons τ ts) (max n m) where
  f := fun x => d.f x.1 :: s.f x.2
  dec := @instDecidableEqProd _ _ d.dec s.dec
  dp := fun h => by obtain ⟨v, ws, F1, F2, rfl, _, r, q⟩ := h; exact .cons (d.dp r) (s.dp q)
  lay := fun x => by simp [PyData.canLayAll0, d.lay x.1, s.lay x.2]
  dpt := fun x => by
    simp only [PyData.depthAll]
    have h1 := d.dpt x.1
    have h2 := s.dpt x.2
    omega
  eqv := fun x y => by
    obtain ⟨x1, x2⟩ := x
    obtain ⟨y1, y2⟩ := y
    letI := d.dec
    letI := s.dec
    simp only [PyData.eqvAll, d.eqv x1 y1, s.eqv x2 y2]
    by_cases h1 : x1 = y1
    · by_cases h2 : x2 = y2
      · subst h1 h2; simp
      · have : ¬ ((x1, x2) = (y1, y2)) := fun e => h2 (Prod.mk.inj e).2
        simp only [h2, decide_false, Bool.and_false]
        exact (decide_eq_false this).symm
    · have : ¬ ((x1, x2) = (y1, y2)) := fun e => h1 (Prod.mk.inj e).1
      simp only [h1, decide_false, Bool.false_and]
      exact (decide_eq_false this).symm
def dat_tup (s : Sat ts m) : Dat (yTup ts) (m + 1) where
  f := fun x => .tuple (s.f x)
  dec := s.dec
  dp := fun h => by obtain ⟨a, vs, rfl, sq, q⟩ := h; exact .tup sq (s.dp q)
  lay := fun x => by simp only [PyData.canLay0]; exact s.lay x
  dpt := fun x => by simp only [PyData.depth]; exact Nat.succ_le_succ (s.dpt x)
  eqv := fun x y => by simp only [PyData.eqv]; exact s.eqv x y
end
section
variable {X : Cx} {K : PySem.W.Frag} {H : Hp} {F1 F2 : List Addr} {v u : V} {α : Type} {τ : Ty α} {Q : VK} {n : Nat} {x y : α}
theorem op_eq_d {K : PySem.W.Frag} (hu : X.A.units + 64 < cLine) (e : X.K = K := by rfl) : OpR X (compareOp .Eq) (rEqD K) := by subst e; exact op_eqD hu
theorem op_ne_d {K : PySem.W.Frag} (hu : X.A.units + 64 < cLine) (e : X.K = K := by rfl) : OpR X (compareOp .NotEq) (rNeD K) := by subst e; exact op_neD hu
theorem Dat.shaped (d : Dat τ n) (hn : n ≤ 64) (x : α) : SeqAt.shaped (d.f x) = true := by
  unfold SeqAt.shaped
  rw [d.lay x, decide_eq_true (Nat.le_trans (d.dpt x) hn)]
  rfl
theorem w_eqD [i : DecidableEq α] (d : Dat τ n) (r : τ.rep K H F1 v x) (q : τ.rep K H F2 u y) (k : Q (.bl (decide (x = y))) H) (hn : n ≤ 64 := by decide) : rEqD K v u H Q :=
  ⟨_, _, d.dp r, d.dp q, d.shaped hn x, d.shaped hn y, by
    have e : @decide (x = y) (d.dec x y) = @decide (x = y) (i x y) := by congr
    rw [d.eqv, e]; exact k⟩
theorem w_neD [i : DecidableEq α] (d : Dat τ n) (r : τ.rep K H F1 v x) (q : τ.rep K H F2 u y) (k : Q (.bl (!decide (x = y))) H) (hn : n ≤ 64 := by decide) : rNeD K v u H Q :=
  ⟨_, _, d.dp r, d.dp q, d.shaped hn x, d.shaped hn y, by
    have e : @decide (x = y) (d.dec x y) = @decide (x = y) (i x y) := by congr
    rw [d.eqv, e]; exact k⟩
end
end G
namespace G
open PySem PySem.Spec PyProof.Rows L2
section
variable {K : PySem.W.Frag} {σ σ' : L2.St} {H : Hp} {F F1 F2 Fu : List Addr} {ta tb te : TE} {v u x y : V} {i j : Int} {α β : Type} {τ : Ty α} {υ : Ty β} {Q : VK} {D : Ends} {t1 t2 : TS} {g : TG} {ws : List Nat}
theorem lsg_nil {p : Addr} {υ : Ty β} (r : (yLst υ).rep K H [p] (.ref p) []) : (yLsg τ).rep K H [p] (.ref p) [] := by
  obtain ⟨a, vs, e, f, g, q⟩ := r
  obtain rfl := V.ref.inj e
  cases q
  exact ⟨p, [], [], rfl, rfl, List.not_mem_nil, g, fun b h => absurd h List.not_mem_nil, Paired.nil⟩
theorem e_appG {D : Addr} {N : Hp → Prop} {xs ys : List α} {d : α} (r : (yLsg τ).rep K H F (.ref D) xs) (ru : τ.rep K H Fu u d) (ap : ∀ p, V.ref D = .ref p → p ∉ Fu) (hm : Mi.app xs d = some ys)
    (k : ∀ H' F', Chg F H H' → (yLsg τ).rep K H' F' (.ref D) ys → Sub F F' → Sub F' (F ++ Fu) → N H') : AppG D N u H := by
  have h := m_appG (Q := fun _ H' => N H') r ru ap hm k
  obtain ⟨l, xs', y, e, e2, g, hz, q⟩ := h
  obtain rfl := V.ref.inj e
  obtain rfl : u = y := by simpa using e2
  exact ⟨xs', g, hz, q⟩
theorem enumF_at {α : Type} : ∀ (k : Int) (xs : List α) (i : Nat) {x : α}, xs[i]? = some x → (Mi.enumF k xs)[i]? = some (k + i, x)
  | _, [], _, _, h => by simp at h
  | k, y :: ys, 0, x, h => by
    obtain rfl : y = x := by simpa using h
    show some (k, y) = some (k + ((0 : Nat) : Int), y)
    rw [show k + ((0 : Nat) : Int) = k by omega]
  | k, y :: ys, i + 1, x, h => by
    show (Mi.enumF (k + 1) ys)[i]? = _
    rw [enumF_at (k + 1) ys i (by simpa using h)]
    congr 2
    omega
theorem enumF_len {α : Type} : ∀ (k : Int) (xs : List α), (Mi.enumF k xs).length = xs.length
  | _, [] => rfl
  | k, _ :: ys => by show (Mi.enumF (k + 1) ys).length + 1 = ys.length + 1; rw [enumF_len]
theorem w_iEnum {ts : TA} {R : It → Hp → Prop} (h : ts σ H fun vs H1 => ∃ a xs, vs = [.ref a] ∧ SqL K H1 a xs ∧ R (Ite K a) H1) : iEnum K ts σ H R := h
theorem l_enum {tb : TS} {nx : L2.St → Hp → Prop} {xs : List α} {i1 i2 : Nat} (r : (yLst τ).rep K H F v xs) (Pv : Nat → L2.St → Hp → Prop) (h0 : Pv 0 σ H) (hl : ∀ i σ' H', Pv i σ' H' → (yLst τ).rep K H' F v xs)
    (hs : ∀ (i : Nat) (x : Int × α) (u : V) σ' H' H2, (Mi.enumF 0 xs)[i]? = some x → Chg [] H' H2 → τ.rep K H2 [] u x.2 → Pv i σ' H' → tb { D with nx := Pv (i + 1), ct := Pv (i + 1), bk := nx } ((σ'.set i1 (some (.int x.1))).set i2 (some u)) H2) (hd : ∀ σ' H', Pv (Mi.enumF 0 xs).length σ' H' → nx σ' H') :
    ∃ a xs, [v] = [.ref a] ∧ SqL K H a xs ∧ LoopG (Ite K a) (gTup K 2 (gCons (gName i1) (gCons (gName i2) gNil))) tb D nx σ H := by
  obtain ⟨a, vs, rfl, s, q⟩ := lst_sq r
  refine ⟨a, vs, rfl, s, fun i m σ' H' => m = xs.length - i ∧ i ≤ xs.length ∧ Pv i σ' H', ⟨xs.length, by omega, Nat.zero_le _, h0⟩, ?_⟩
  rintro i m σ' H' ⟨rfl, hi, p⟩
  obtain ⟨a', vs', e', s', q'⟩ := lst_sq (hl i σ' H' p)
  obtain rfl := V.ref.inj e'
  by_cases hlt : i < xs.length
  · obtain ⟨u, hu, ru⟩ := pr_get q' (List.getElem?_eq_getElem hlt)
    refine .inr ⟨⟨vs', u, s', hu⟩, Pv (i + 1), fun σ2 H2 p' => ⟨xs.length - (i + 1), by omega, rfl, hlt, p'⟩, fun x H2 y => ?_⟩
    obtain ⟨T, w, rfl, nT, rfl, y⟩ := y
    obtain rfl : w = u := Option.some.inj ((y _ s').symm.trans hu)
    have hx := enumF_at 0 xs i (List.getElem?_eq_getElem hlt)
    have c : Chg [] H' (upd H' T (.tup [.int (i : Nat), w])) := Chg.new nT
    have h := hs i _ w σ' H' _ hx c (Ty.ex ru c) p
    have e0 : (0 : Int) + (i : Int) = (i : Int) := Int.zero_add _
    rw [e0] at h
    exact ⟨T, _, rfl, .inl (.inl upd_same), rfl, _, _, rfl, _, _, rfl, rfl, h⟩
  · obtain rfl : i = xs.length := by omega
    exact .inl ⟨⟨vs', s', by rw [pr_len q']; exact Nat.le_refl _⟩, hd σ' H' (by rw [enumF_len]; exact p)⟩
end
end G
namespace G
theorem of_guard {p : Prop} [Decidable p] {u : Unit} (h : Mi.guardO (decide p) = some u) : p := by
  unfold Mi.guardO at h
  split at h
  · exact of_decide_eq_true (by assumption)
  · cases h
end G

/-! ### enumerate over a tuple -/
namespace PySem
open Sem (wp)
theorem enumT_meets (l : Addr) (its : Array Value) :
    Meets (Builtin.«enumerate.__new__» ⟨[.type "enumerate", .ref l], []⟩) (fun _ R s => s.heap.IsTuple l its ∧
      R (.ok (.ret (.ref (s.heap.push { cls := .type "tuple_iterator", data := .fields #[.ref l, .int 0 0] }).objs.size)))
        { s with heap := (s.heap.push { cls := .type "tuple_iterator", data := .fields #[.ref l, .int 0 0] }).push { cls := .type "enumerate", data := .fields #[.none, .bool false, .ref s.heap.objs.size, rawInt 0, .none, .none] } }) :=
  .of_wp fun prog w A R s hz => by
    obtain ⟨hp, gl, d, tk, os⟩ := s
    obtain ⟨hT, hz⟩ := hz
    have hsb := sub_enumerate
    have ht : Heap.IsTuple (Shared.heap ⟨hp, gl, d, tk, os⟩) l its := hT
    wp_walk
    refine wpAny_stack_any fun stk => wpAny_pure ?_
    split
    · rename_i c _ _ _ _ _
      cases (c == Value.type "enumerate")
      all_goals (wp_walk using wpAny_pyIter_tuple ht; exact ⟨_, rfl, hz⟩)
    · (wp_walk using wpAny_pyIter_tuple ht); exact ⟨_, rfl, hz⟩
section
variable {prog : Program} {w : World} {A : Around} {E : Value → Shared → Prop} {s : Shared}
theorem enumT_call {l : Addr} {its : Array Value} {Q : Value → Shared → Prop} (hL : s.heap.IsTuple l its)
    (k : ∀ h', IsEnum h' (s.heap.objs.size + 1) s.heap.objs.size 0 .none → h'.IsTupleIter s.heap.objs.size l 0 → h'.objs.size = s.heap.objs.size + 2 →
      (∀ b o, s.heap.get? b = some o → h'.get? b = some o) → Q (.ref (s.heap.objs.size + 1)) { s with heap := h' }) :
    wpAny (model prog w) A (call (.type "enumerate") [.ref l]) Q E s := by
  refine callType_new F.called_enumerate (by decide) (F.typeCall_enumerate_1 _) (F.newCall_enumerate_1 _) (fun ob => F.args_object_init_2 ob _) F.entry_enumerate_new (enumT_meets l its) ⟨hL, ?_⟩
  have sz : (s.heap.push { cls := .type "tuple_iterator", data := .fields #[.ref l, .int 0 0] }).objs.size = s.heap.objs.size + 1 := Heap.size_push ..
  show _ ∧ _
  rw [sz]
  have en : IsEnum ((s.heap.push { cls := .type "tuple_iterator", data := .fields #[.ref l, .int 0 0] }).push
      { cls := .type "enumerate", data := .fields #[.none, .bool false, .ref s.heap.objs.size, rawInt 0, .none, .none] }) (s.heap.objs.size + 1) s.heap.objs.size 0 .none := by
    have z := Heap.get?_push_size (s.heap.push { cls := .type "tuple_iterator", data := .fields #[.ref l, .int 0 0] })
      (o := { cls := .type "enumerate", data := .fields #[.none, .bool false, .ref s.heap.objs.size, rawInt 0, .none, .none] }) rfl
    rw [sz] at z; exact z
  exact ⟨⟨_, en, rfl⟩, k _ en ⟨_, Heap.get?_push_of_some _ (Heap.get?_push_size _ rfl), rfl, rfl⟩ (by rw [Heap.size_push, sz]) fun b o x => Heap.get?_push_of_some _ (Heap.get?_push_of_some _ x)⟩
end
end PySem
namespace L2
open PySem PySem.Spec PyProof.Rows
/-- the tuple at a, each item in a new pair -/
def ItT (K : PySem.W.Frag) (a : Addr) : It :=
  ⟨fun i H => ∃ (xs : List V) (x : V), SqT K H a xs ∧ xs[i]? = some x, fun i H v H' => ∃ T x, v = .ref T ∧ H T = none ∧ H' = upd H T (.tup [.int (i : Nat), x]) ∧ ∀ xs, SqT K H a xs → xs[i]? = some x, fun i H => ∃ xs : List V, SqT K H a xs ∧ xs.length ≤ i⟩
theorem turn_enumT {P : Program} {w : World} {K : PySem.W.Frag} {elts : List Expr} {kk : Nat} {tpos : Pos} (a e it : Addr) :
    Turn P w K (.Tuple elts kk tpos) (ItT K a) [e, it] e (fun i h => (∃ old, IsEnum h e it ((i : Nat) : Int) old) ∧ h.IsTupleIter it a i ∧ e ≠ it) where
  mem := by simp
  obj := fun i h st b hb => by
    obtain ⟨⟨old, he⟩, ⟨o, ho, hc, hd⟩, _⟩ := st
    rcases (show b = e ∨ b = it by simpa using hb) with z | z
    · rw [z]; exact ⟨_, he, fun v q => nomatch q⟩
    · rw [z]; exact ⟨o, ho, fun v q => by rw [hd] at q; cases q⟩
  keep := fun i h h' st k => let ⟨⟨old, he⟩, hi, hne⟩ := st; ⟨⟨old, k e (by simp) _ he⟩, hi.at fun o q => k it (by simp) o q, hne⟩
  item := by
    intro X hP hw hK hc i pins s σ H E I hf st hg
    subst hP hw hK
    obtain ⟨⟨old, hen⟩, hit, hne⟩ := st
    obtain ⟨xs, x, hsq, hx⟩ := hg
    obtain ⟨its, rv, pT, _⟩ := I.tuple hsq
    obtain ⟨u, hu, ru⟩ := rv.get hx
    have hel : e < s.heap.objs.size := Heap.lt_size hen
    have hil : it < s.heap.objs.size := by obtain ⟨_, q, _⟩ := hit; exact Heap.lt_size q
    have hT : s.heap.IsTuple a its.toArray := pT
    have hai : a ≠ it := fun z => by
      obtain ⟨o1, e1, c1, _⟩ := hT
      obtain ⟨o2, e2, c2, _⟩ := hit
      rw [z, e2] at e1
      cases e1
      rw [c1] at c2
      exact absurd c2 (by decide)
    have hea : e ≠ a := fun z => by
      obtain ⟨o1, e1, c1, _⟩ := hT
      rw [← z] at e1
      have z2 : s.heap.get? e = _ := hen
      rw [z2] at e1
      cases e1
      exact absurd (show (Value.type "enumerate" : Value) = .type "tuple" from c1) (by decide)
    have hD := Draws.tuple (prog := X.prog) (w := X.w) (A := X.A.in1) (I.ok.hd hc) it a hai its.toArray
    refine wpAny_pyNext_enum_itemD hD hen ⟨hit, hT⟩ (by have := (List.getElem?_eq_some_iff.mp hu).1; simpa using this) hne (by simp [hne, hea]) fun y h' tk hy ho st' hT1 hsz hk => ?_
    obtain rfl : u = y := by
      have hy' : its.toArray[i]? = some y := hy
      rw [List.getElem?_toArray, hu] at hy'
      exact Option.some.inj hy'
    refine ⟨_, rfl, wpAny_letOwnedTupleGo_enum (s := { s with heap := h', toks := tk + 1 }) ho fun h2 he2 sb => ?_⟩
    have hT2 : h2.get? s.heap.objs.size = some { cls := .type "tuple", data := .seq #[.int i tk, u] } := (sb.2 _ (Nat.ne_of_gt hel)).trans hT1
    have nw : ObjOk X.prog X.w (upd H s.heap.objs.size (.tup [.int (i : Nat), x])) h2 s.heap.objs.size (.tup [.int (i : Nat), x]) :=
      ⟨by show 2 ≤ sizeLine; decide, [.int i tk, u], .cons ⟨_, rfl⟩ (.cons ru .nil), ⟨_, hT2, rfl, _, rfl⟩⟩
    have I1 : Inv X pins σ (upd H s.heap.objs.size (.tup [.int (i : Nat), x])) { s with heap := h2, toks := tk + 1 } :=
      I.turnedNew (ch := [e, it]) (fun b ob hb q => (sb.2 b (fun z => hb (by simp [z]))).trans (hk b ob (fun z => hb (by simp [z])) (fun z => hb (by simp [z])) q)) hf (Nat.le_refl _) nw
    refine ⟨.ref s.heap.objs.size, _, I1, rfl, ⟨_, x, rfl, I.hok.fresh (Nat.le_refl _), rfl, fun ys hy => by rw [I.tuple_inj hy hsq]; exact hx⟩, ⟨⟨u, ?_⟩, st'.1.at fun o q => (sb.2 it (Ne.symm hne)).trans q, hne⟩, fun b hb => ?_⟩
    · rw [show ((i + 1 : Nat) : Int) = (i : Int) + 1 by omega]; exact he2
    · have hb' : b < s.heap.objs.size := by
        rcases (show b = e ∨ b = it by simpa using hb) with z | z
        · rw [z]; exact hel
        · rw [z]; exact hil
      rw [upd_ne (Nat.ne_of_lt hb')]
      exact (hf b hb).1
  done := by
    intro X hP hw hK hc i pins s σ H E I hf st hg
    subst hP hw hK
    obtain ⟨⟨old, hen⟩, hit, hne⟩ := st
    obtain ⟨xs, hsq, hx⟩ := hg
    obtain ⟨its, rv, pT, _⟩ := I.tuple hsq
    obtain ⟨f0, f1, f2, f3, f4, f5⟩ := hf it (by simp)
    have hl := rv.length
    have hT : s.heap.IsTuple a its.toArray := pT
    have hai : a ≠ it := fun z => by
      obtain ⟨o1, e1, c1, _⟩ := hT
      obtain ⟨o2, e2, c2, _⟩ := hit
      rw [z, e2] at e1
      cases e1
      rw [c1] at c2
      exact absurd c2 (by decide)
    have hTy : s.TypeIs (.ref e) "enumerate" := ⟨_, hen, rfl⟩
    unfold pyNext
    refine wpAny_bind (wpAny_attempt (wpAny_callSpecial?_slot (name := Str.ofString "__next__") hTy F.slot_enumerate_next (wpAny_call_entry F.slot_enumerate_next hTy F.entry_enumerate_next ?_ (F.args_enumerate_next_1 _))))
    show wpAny _ _ (field (.ref e) 2 >>= _) _ _ _
    refine wpAny_bind (wpAny_field hen rfl (x := .ref it) rfl ?_)
    refine wpAny_bind (wpAny_nextOf_tuple_end (I.ok.hd hc) hit hT (by simp; omega) fun h' y eb hy => ?_)
    obtain ⟨o, ho, hcl⟩ := hy
    refine wpAny_bind (wpAny_isInstance (T := "StopIteration") (b := true) ⟨o, ho, hcl⟩ isSubtype_stop ?_)
    exact wpAny_pure ⟨rfl, I.turned (t' := s.toks) (fun b o hb q => eb b o hb q) f0 f1 f3 f4 f5⟩
  self := fun A i s Q E st h => let ⟨⟨_, he⟩, _⟩ := st; wpAny_pyIter_enum he h
def iEnumT (K : PySem.W.Frag) (ta : TA) : TI := fun σ H R => ta σ H fun vs H1 => ∃ a xs, vs = [.ref a] ∧ SqT K H1 a xs ∧ R (ItT K a) H1
theorem pi_enumT {X : Cx} {e : Expr} {ta : TA} {p pos tpos : Pos} {elts : List Expr} {kk : Nat} (hg : Gl X "enumerate") (hm : X.mg "enumerate" = none) (ha : PA X [e] ta) (hs : starEach [e] X.env = [(false, eval e X.env)] := by rfl) :
    PI X (.Tuple elts kk tpos) (.Call (.Name "enumerate" p) [e] [] pos) (iEnumT X.K ta) := by
  refine ⟨fun pins s σ H R I h => ?_⟩
  refine Call_ (ld_blt I hg hm boot_enumerate (PyProof.Rows.callWith_type1 (thn (ha.run pos pins s σ H _ I h) fun us s1 ⟨vs, H1, I1, r1, q1⟩ => ?_) hs rfl))
  obtain ⟨a, xs, rfl, hsq, q⟩ := q1
  cases r1 with
  | cons r rr =>
    cases rr
    cases r
    obtain ⟨its, rv, pT, _⟩ := I1.tuple hsq
    refine enumT_call (show s1.heap.IsTuple a its.toArray from pT) fun h' hen hit hsz hk => wpAny_pyIter_enum hen ?_
    have I2 : Inv X pins σ H1 { s1 with heap := h' } := I1.kept (t' := s1.toks) hk
    refine ⟨s1.heap.objs.size + 1, [s1.heap.objs.size + 1, s1.heap.objs.size], _, _, H1, rfl, I2, turn_enumT a (s1.heap.objs.size + 1) s1.heap.objs.size, ⟨⟨.none, hen⟩, hit, Nat.succ_ne_self _⟩, fun b hb => ?_, q⟩
    have hle : s1.heap.objs.size ≤ b := by
      rcases (show b = s1.heap.objs.size + 1 ∨ b = s1.heap.objs.size by simpa using hb) with z | z
      · rw [z]; exact Nat.le_add_right _ _
      · rw [z]; exact Nat.le_refl _
    exact I1.fpOk hle (I1.hok.fresh hle)
end L2
namespace G
open PySem PySem.Spec PyProof.Rows L2
section
variable {K : PySem.W.Frag} {σ σ' : L2.St} {H : Hp} {F F1 F2 Fu : List Addr} {ta tb te : TE} {v u x y : V} {i j : Int} {α β : Type} {τ : Ty α} {υ : Ty β} {Q : VK} {D : Ends} {t1 t2 : TS} {g : TG} {ws : List Nat}
theorem w_iEnumT {ts : TA} {R : It → Hp → Prop} (h : ts σ H fun vs H1 => ∃ a xs, vs = [.ref a] ∧ SqT K H1 a xs ∧ R (ItT K a) H1) : iEnumT K ts σ H R := h
theorem l_enumT {tb : TS} {nx : L2.St → Hp → Prop} {xs : List α} {i1 i2 : Nat} (r : (yTupL τ).rep K H F v xs) (Pv : Nat → L2.St → Hp → Prop) (h0 : Pv 0 σ H) (hl : ∀ i σ' H', Pv i σ' H' → (yTupL τ).rep K H' F v xs)
    (hs : ∀ (i : Nat) (x : Int × α) (u : V) σ' H' H2, (Mi.enumF 0 xs)[i]? = some x → Chg [] H' H2 → τ.rep K H2 [] u x.2 → Pv i σ' H' → tb { D with nx := Pv (i + 1), ct := Pv (i + 1), bk := nx } ((σ'.set i1 (some (.int x.1))).set i2 (some u)) H2) (hd : ∀ σ' H', Pv (Mi.enumF 0 xs).length σ' H' → nx σ' H') :
    ∃ a xs, [v] = [.ref a] ∧ SqT K H a xs ∧ LoopG (ItT K a) (gTup K 2 (gCons (gName i1) (gCons (gName i2) gNil))) tb D nx σ H := by
  obtain ⟨a, vs, rfl, s, q⟩ := tupl_sq r
  refine ⟨a, vs, rfl, s, fun i m σ' H' => m = xs.length - i ∧ i ≤ xs.length ∧ Pv i σ' H', ⟨xs.length, by omega, Nat.zero_le _, h0⟩, ?_⟩
  rintro i m σ' H' ⟨rfl, hi, p⟩
  obtain ⟨a', vs', e', s', q'⟩ := tupl_sq (hl i σ' H' p)
  obtain rfl := V.ref.inj e'
  by_cases hlt : i < xs.length
  · obtain ⟨u, hu, ru⟩ := pr_get q' (List.getElem?_eq_getElem hlt)
    refine .inr ⟨⟨vs', u, s', hu⟩, Pv (i + 1), fun σ2 H2 p' => ⟨xs.length - (i + 1), by omega, rfl, hlt, p'⟩, fun x H2 y => ?_⟩
    obtain ⟨T, w, rfl, nT, rfl, y⟩ := y
    obtain rfl : w = u := Option.some.inj ((y _ s').symm.trans hu)
    have hx := enumF_at 0 xs i (List.getElem?_eq_getElem hlt)
    have c : Chg [] H' (upd H' T (.tup [.int (i : Nat), w])) := Chg.new nT
    have h := hs i _ w σ' H' _ hx c (Ty.ex ru c) p
    have e0 : (0 : Int) + (i : Int) = (i : Int) := Int.zero_add _
    rw [e0] at h
    exact ⟨T, _, rfl, .inl (.inl upd_same), rfl, _, _, rfl, _, _, rfl, rfl, h⟩
  · obtain rfl : i = xs.length := by omega
    exact .inl ⟨⟨vs', s', by rw [pr_len q']; exact Nat.le_refl _⟩, hd σ' H' (by rw [enumF_len]; exact p)⟩
end
end G

namespace G
open PySem PySem.Spec PyProof.Rows L2
section
variable {K : PySem.W.Frag} {σ σ' : L2.St} {H : Hp} {F F1 F2 Fu : List Addr} {ta tb te : TE} {v u x y : V} {i j : Int} {α β : Type} {τ : Ty α} {υ : Ty β} {Q : VK} {D : Ends} {t1 t2 : TS} {g : TG} {ws : List Nat}
theorem st_eq {t : TS} (e : σ = σ') (h : t D σ' H) : t D σ H := e ▸ h
theorem m_popAtG {xs : List α} {p : α × List α} (r : (yLsg τ).rep K H F v xs) (hm : Mi.popAt xs i = some p) (hb : xs.length ≤ Mi.big)
    (k : ∀ u H' Fi, Chg F H H' → τ.rep K H' Fi u p.1 → Sub Fi F → (yLsg τ).rep K H' F v p.2 → Q u H') : rPopAt v [.int i] H Q := by
  obtain ⟨l, vs, G, rfl, rfl, na, g, dm, q⟩ := r
  unfold Mi.popAt at hm
  obtain ⟨j, hj, hm⟩ := Mi.bnd hm
  obtain ⟨y, hy, hm⟩ := Mi.bnd hm
  obtain rfl := Option.some.inj hm
  obtain ⟨u, hu, Fi, ru, sb⟩ := pr_get q hy
  have c : Chg [l] H (upd H l (.lst (vs.eraseIdx j))) := Chg.wr g (fun z => z)
  have kp : ∀ {γ : Type} {ρ : Ty γ} {Fi : List Addr} {w : V} {e : γ}, ρ.rep K H Fi w e → l ∉ Fi → ρ.rep K (upd H l (.lst (vs.eraseIdx j))) Fi w e := fun rr hn => Ty.chg rr c fun b hb z => by
    rw [List.mem_singleton] at z; subst z; exact hn hb
  obtain ⟨h1, h2, h3, h4⟩ := ixN_seq (show L2.ixN vs.length i = some j by rw [pr_len q]; exact hj)
  have hb2 : vs.length ≤ 1000000 := by rw [pr_len q]; exact hb
  refine ⟨l, vs, i, j, u, rfl, rfl, g, by omega, by omega, h1, hu, k u _ Fi (c.mono fun b hb => by rw [List.mem_singleton] at hb; subst hb; exact List.mem_cons_self ..) (kp ru fun hp => na (sb l hp)) (fun b hb => List.mem_cons_of_mem _ (sb b hb)) ⟨l, _, G, rfl, rfl, na, upd_same, fun b hb => ?_, Paired.mapP (pr_erase q j) fun w e z => ?_⟩⟩
  · obtain ⟨o, ho, hf⟩ := dm b hb
    have hbl : b ≠ l := fun z => by subst z; exact na hb
    exact ⟨o, by rw [upd_ne hbl]; exact ho, hf⟩
  · obtain ⟨Fi, rr, s2⟩ := z
    exact ⟨Fi, kp rr fun hp => na (s2 l hp), s2⟩
end
end G
namespace G
open PySem PySem.Spec PyProof.Rows L2
theorem pe_fldk {X : Cx} {K : PySem.W.Frag} {e : Expr} {f : Str} {pos : Pos} {ta : TE} (he : PE X e ta) (hb : attributeBase e f X.env (eval e X.env) = eval e X.env) (hk : X.K = K := by rfl) : PE X (.Attribute e f pos) (tFld K ta f) := by
  subst hk; exact pe_fld he hb
end G

namespace G
open PySem PySem.Spec PyProof.Rows L2
/-! ### texts -/
theorem toS_len (l : List Nat) : (toS l).length = l.length := by simp [toS, Str.length]
theorem toS_tl (l : List Nat) : (toS l).cps.toList = l := by simp [toS]
theorem toS_inj {a b : List Nat} (h : toS a = toS b) : a = b := by rw [← toS_tl a, h, toS_tl]
theorem toS_of {x : Str} {l : List Nat} (h : x.cps.toList = l) : x = toS l := by
  obtain ⟨c⟩ := x
  show Str.mk c = Str.mk l.toArray
  congr 1
  rw [← h]
theorem toS_app (a b : List Nat) : toS a ++ toS b = toS (a ++ b) := toS_of (by
  refine (TL.tl_append (toS a) (toS b)).trans ?_
  show (toS a).cps.toList ++ (toS b).cps.toList = _
  rw [toS_tl, toS_tl])
theorem dTx {a b : List Nat} : decide (V.str (toS a) = V.str (toS b)) = decide (a = b) := by
  by_cases h : a = b
  · subst h; simp
  · rw [decide_eq_false h, decide_eq_false]
    intro z
    exact h (toS_inj (V.str.inj z))
theorem bigS {n : Nat} (h : n ≤ Mi.big) : n ≤ sizeLine := Nat.le_trans h (by decide)
section
variable {X : Cx} {K : PySem.W.Frag} {σ σ' : L2.St} {H : Hp} {F F1 F2 Fu : List Addr} {ta tb te to : TE} {v u x y : V} {i j : Int} {α β : Type} {τ : Ty α} {υ : Ty β} {Q : VK} {D : Ends} {g : TG} {ws : List Nat} {a b c : List Nat} {t tu tt : TT}
theorem val_cS {s : Str} (h : s = toS a) : Val (tC (.str s)) σ H (.str (toS a)) := by subst h; exact val_c
theorem val_eqS (ha : Val ta σ H (.str (toS a))) (hb : Val tb σ H (.str (toS b))) : Val (tOp rEq ta tb) σ H (.bl (decide (a = b))) := val_op ha hb fun Q q => ⟨rfl, by rw [dTx]; exact q⟩
theorem val_neS (ha : Val ta σ H (.str (toS a))) (hb : Val tb σ H (.str (toS b))) : Val (tOp rNe ta tb) σ H (.bl (!decide (a = b))) := val_op ha hb fun Q q => ⟨rfl, by rw [dTx]; exact q⟩
theorem w_eqS (k : Q (.bl (decide (a = b))) H) : rEq (.str (toS a)) (.str (toS b)) H Q := ⟨rfl, by rw [dTx]; exact k⟩
theorem w_neS (k : Q (.bl (!decide (a = b))) H) : rNe (.str (toS a)) (.str (toS b)) H Q := ⟨rfl, by rw [dTx]; exact k⟩
/-- len -/
def rLenT : List V → Hp → VK → Prop := fun xs H Q => ∃ z, xs = [.str z] ∧ z.length ≤ sizeLine ∧ Q (.int z.length) H
theorem cl_lenTx : CallR X (.builtin "len") rLenT := call_len_str
theorem w_lenTx {n : Int} (hm : Mi.sLen a = some n) (k : Q (.int n) H) : rLenT [.str (toS a)] H Q := by
  unfold Mi.sLen at hm
  split at hm
  · obtain rfl := Option.some.inj hm
    exact ⟨_, rfl, by rw [toS_len]; exact bigS (by assumption), by rw [toS_len]; exact k⟩
  · cases hm
theorem val_lenTx {n : Int} (hm : Mi.sLen a = some n) (ha : Val ta σ H (.str (toS a))) : Val (tCB rLenT (tCons ta tNil)) σ H (.int n) := fun Q k => ha _ (w_lenTx hm k)
/-- s[i] -/
theorem w_ixS (hm : Mi.sAt a i = some b) (k : Q (.str (toS b)) H) : rIxS (.str (toS a)) (.int i) H Q := by
  unfold Mi.sAt at hm
  split at hm
  · cases e : Mi.at_ a i with
    | none => rw [e] at hm; cases hm
    | some z =>
      rw [e] at hm
      obtain rfl := Option.some.inj hm
      exact ⟨_, i, z, rfl, rfl, by rw [toS_len]; exact bigS (by assumption), by rw [toS_tl]; exact e, k⟩
  · cases hm
theorem val_ixS (hm : Mi.sAt a i = some b) (ha : Val ta σ H (.str (toS a))) (hb : Val tb σ H (.int i)) : Val (tOp rIxS ta tb) σ H (.str (toS b)) := val_op ha hb fun Q q => w_ixS hm q
/-- s + t -/
theorem op_catS : OpR X (binaryOp .Add) rAddS := op_add_str
theorem w_catS (hm : Mi.sCat a b = some c) (k : Q (.str (toS c)) H) : rAddS (.str (toS a)) (.str (toS b)) H Q := by
  unfold Mi.sCat at hm
  split at hm
  · obtain rfl := Option.some.inj hm
    exact ⟨_, _, rfl, rfl, by rw [toS_len, toS_len]; exact bigS (by assumption), by rw [toS_app]; exact k⟩
  · cases hm
theorem val_catS (hm : Mi.sCat a b = some c) (ha : Val ta σ H (.str (toS a))) (hb : Val tb σ H (.str (toS b))) : Val (tOp rAddS ta tb) σ H (.str (toS c)) := val_op ha hb fun Q q => w_catS hm q
/-- c in s -/
def rInC : R2 := fun x y H Q => ∃ (c : Nat) (z : Str), x = .str ⟨#[c]⟩ ∧ y = .str z ∧ Q (.bl (decide (c ∈ z.cps.toList))) H
def rNiC : R2 := fun x y H Q => ∃ (c : Nat) (z : Str), x = .str ⟨#[c]⟩ ∧ y = .str z ∧ Q (.bl (!decide (c ∈ z.cps.toList))) H
theorem op_in_c : OpR X (compareOp .In) rInC := op_in_sign
theorem op_ni_c : OpR X (compareOp .NotIn) rNiC := op_notIn_sign
theorem sIn_some {k : Bool} (hm : Mi.sIn a b = some k) : ∃ c, a = [c] ∧ decide (c ∈ b) = k := by
  match a, hm with
  | [c], hm => exact ⟨c, rfl, by rw [← List.contains_eq_mem]; exact Option.some.inj hm⟩
theorem w_inC {k : Bool} (hm : Mi.sIn a b = some k) (q : Q (.bl k) H) : rInC (.str (toS a)) (.str (toS b)) H Q := by
  obtain ⟨c, rfl, e⟩ := sIn_some hm
  exact ⟨c, _, rfl, rfl, by rw [toS_tl, e]; exact q⟩
theorem w_niC {k : Bool} (hm : Mi.sIn a b = some k) (q : Q (.bl (!k)) H) : rNiC (.str (toS a)) (.str (toS b)) H Q := by
  obtain ⟨c, rfl, e⟩ := sIn_some hm
  exact ⟨c, _, rfl, rfl, by rw [toS_tl, e]; exact q⟩
theorem val_inC {k : Bool} (hm : Mi.sIn a b = some k) (ha : Val ta σ H (.str (toS a))) (hb : Val tb σ H (.str (toS b))) : Val (tOp rInC ta tb) σ H (.bl k) := val_op ha hb fun Q q => w_inC hm q
theorem val_niC {k : Bool} (hm : Mi.sIn a b = some k) (ha : Val ta σ H (.str (toS a))) (hb : Val tb σ H (.str (toS b))) : Val (tOp rNiC ta tb) σ H (.bl (!k)) := val_op ha hb fun Q q => w_niC hm q
/-- s[lo:hi] -/
theorem sIx_eq (n d : Nat) (o : Option Int) : HT.sIx n d o = Mi.sIx n d o := by
  cases o <;> rfl
theorem w_cutS {lo hi : Option Int} (hm : Mi.sCut a lo hi = some b) (k : Q (.str (toS b)) H) : rSlS (.str (toS a)) lo hi H Q := by
  unfold Mi.sCut at hm
  split at hm
  · obtain rfl := Option.some.inj hm
    refine ⟨_, rfl, by rw [toS_len]; exact bigS (by assumption), ?_⟩
    have e : cutS (toS a) lo hi = toS (Mi.cut a lo hi) := by
      unfold cutS
      rw [toS_tl, toS_len, sIx_eq, sIx_eq]
      rfl
    rw [e]; exact k
  · cases hm
/-- sep.join(xs) -/
def rJoinQ (K : PySem.W.Frag) : V → List V → Hp → VK → Prop := fun x xs H Q => ∃ a p, ∃ ys : List Str, x = .str a ∧ xs = [.ref p] ∧ (SqL K H p (ys.map V.str) ∨ SqT K H p (ys.map V.str)) ∧ (ys.map (·.length)).sum + ys.length * a.length ≤ 16777216 ∧ Q (.str (Txt.join a ys)) H
theorem pe_joinQ {K : PySem.W.Frag} {o e : Expr} {apos pos : Pos} (ho : PE X o to) (he : PE X e te) (hk : X.K = K := by rfl) (hs : starEach [e] X.env = [(false, eval e X.env)] := by rfl) (hbase : attributeBase o "join" X.env (eval o X.env) = eval o X.env := by rfl) (hline : (apos.endLine == pos.line) = true := by rfl) :
    PE X (.Call (.Attribute o "join" apos) [e] [] pos) (tM1 (rJoinQ K) to te) := by subst hk; exact pe_join ho he hs hbase hline
theorem joinL_eq (s : List Nat) : ∀ xs : List (List Nat), TL.joinL s xs = Mi.joinL s xs
  | [] => rfl
  | [_] => rfl
  | p :: q :: r => by
    show p ++ (s ++ TL.joinL s (q :: r)) = p ++ (s ++ Mi.joinL s (q :: r))
    rw [joinL_eq s (q :: r)]
theorem strs_mk : ∀ {vs : List V} {xs : List (List Nat)}, Paired (fun u d => yStr.rep K H [] u d) vs xs → vs = (xs.map toS).map V.str
  | _, _, .nil => rfl
  | _, _, .cons r t => by rw [r.2, strs_mk t]; rfl
theorem w_joinL {xs : List (List Nat)} {sep out : List Nat} (r : (yLst yStr).rep K H F v xs) (hm : Mi.sJoin sep xs = some out) (k : Q (.str (toS out)) H) : rJoinQ K (.str (toS sep)) [v] H Q := by
  obtain ⟨p, vs, rfl, s, q⟩ := lst_sq r
  obtain rfl := strs_mk q
  unfold Mi.sJoin at hm
  split at hm
  · rename_i hz
    obtain rfl := Option.some.inj hm
    refine ⟨_, p, xs.map toS, rfl, rfl, .inl s, ?_, ?_⟩
    · rw [List.map_map, List.length_map, toS_len]
      have e : ((fun x : Str => x.length) ∘ toS) = fun l : List Nat => l.length := by funext l; exact toS_len l
      rw [e]
      exact Nat.le_trans hz (by decide)
    · have e : Txt.join (toS sep) (xs.map toS) = toS (Mi.joinL sep xs) := by
        rw [TL.join_eq]
        refine toS_of ?_
        refine (TL.tl_join (toS sep) (xs.map toS)).trans ?_
        rw [List.map_map]
        have e2 : (fun x : Str => x.cps.toList) ∘ toS = fun l : List Nat => l := by funext l; exact toS_tl l
        show TL.joinL (toS sep).cps.toList (xs.map ((fun x : Str => x.cps.toList) ∘ toS)) = _
        rw [e2, toS_tl, List.map_id', joinL_eq]
      rw [e]; exact k
  · cases hm
theorem w_m1 {r : V → List V → Hp → VK → Prop} (h : to σ H fun x H1 => (∃ a, x = .str a) ∧ te σ H1 fun y H2 => r x [y] H2 Q) : tM1 r to te σ H Q := h
/-- for c in s -/
theorem w_iStr {R : It → Hp → Prop} (h : te σ H fun v H1 => ∃ x, v = .str x ∧ R (Its x) H1) : iStr te σ H R := h
theorem signs_at {s : List Nat} {n c : Nat} (h : s[n]? = some c) : (Mi.signs s)[n]? = some [c] := by
  unfold Mi.signs
  rw [List.getElem?_map, h]; rfl
theorem signs_len (s : List Nat) : (Mi.signs s).length = s.length := List.length_map ..
theorem l_str {tb : TS} {nx : L2.St → Hp → Prop} (Pv : Nat → L2.St → Hp → Prop) (h0 : Pv 0 σ H)
    (hs : ∀ (i : Nat) (x : List Nat) σ' H', (Mi.signs a)[i]? = some x → Pv i σ' H' → g (.str (toS x)) σ' H' fun σ2 H2 => tb { D with nx := Pv (i + 1), ct := Pv (i + 1), bk := nx } σ2 H2) (hd : ∀ σ' H', Pv (Mi.signs a).length σ' H' → nx σ' H') :
    ∃ x, V.str (toS a) = .str x ∧ LoopG (Its x) g tb D nx σ H := by
  have ez : (toS a).cps.size = a.length := toS_len a
  refine ⟨_, rfl, fun i m σ' H' => m = a.length - i ∧ i ≤ a.length ∧ Pv i σ' H', ⟨a.length, by omega, Nat.zero_le _, h0⟩, ?_⟩
  rintro i m σ' H' ⟨rfl, hi, p⟩
  by_cases hlt : i < a.length
  · refine .inr ⟨by show i < (toS a).cps.size; omega, Pv (i + 1), fun σ2 H2 p' => ⟨a.length - (i + 1), by omega, rfl, hlt, p'⟩, fun x H2 y => ?_⟩
    obtain ⟨rfl, z, hz, rfl⟩ := y
    have hz' : a[i]? = some z := by
      have e : (toS a).cps.toList[i]? = some z := by rw [Array.getElem?_toList]; exact hz
      rw [toS_tl] at e; exact e
    exact hs i [z] σ' _ (signs_at hz') p
  · obtain rfl : i = a.length := by omega
    exact .inl ⟨by show (toS a).cps.size ≤ _; omega, hd σ' H' (by rw [signs_len]; exact p)⟩
theorem kc_str (Pv : Addr → Nat → Hp → Prop) (h0 : ∀ D H', H D = none → Chg [] H H' → (yLst τ).rep K H' [D] (.ref D) [] → Pv D 0 H')
    (hs : ∀ D (i : Nat) (x : List Nat) H', (Mi.signs a)[i]? = some x → Pv D i H' → TurnG g tt te ws σ D (Pv D (i + 1)) (.str (toS x)) H') (hd : ∀ D H', H D = none → Pv D (Mi.signs a).length H' → Q (.ref D) H') :
    ∃ x, V.str (toS a) = .str x ∧ CompG (Its x) g tt te ws σ H Q := by
  have ez : (toS a).cps.size = a.length := toS_len a
  refine ⟨_, rfl, comp_by (K := K) (τ := τ) a.length Pv h0 (fun D i H' hi p => ⟨by show i < (toS a).cps.size; omega, fun x H2 y => ?_⟩) (fun D H' hD p => ⟨by show (toS a).cps.size ≤ _; omega, hd D H' hD (by rw [signs_len]; exact p)⟩)⟩
  obtain ⟨rfl, z, hz, rfl⟩ := y
  have hz' : a[i]? = some z := by
    have e : (toS a).cps.toList[i]? = some z := by rw [Array.getElem?_toList]; exact hz
    rw [toS_tl] at e; exact e
  exact hs D i [z] _ (signs_at hz') p
/-- int of a bool -/
theorem val_intB {b : Bool} (ha : Val ta σ H (.bl b)) : Val (tCB rInt1 (tCons ta tNil)) σ H (.int (Mi.bI b)) := fun Q q => ha _ (.inr ⟨b, rfl, by cases b <;> exact q⟩)
theorem w_intB {b : Bool} (k : Q (.int (Mi.bI b)) H) : rInt1 [.bl b] H Q := .inr ⟨b, rfl, by cases b <;> exact k⟩
/-- isinstance of None or data -/
theorem val_isiO {n m : String} {b : Bool} {d : Option α} (ty : ∀ {F x}, τ.rep K H F v x → TyX K H v (.type n)) (r : (yOpt τ).rep K H F v d) (ha : Val ta σ H v) (h1 : kitB n m = some b) (h2 : kitB "NoneType" m = some false) : Val (tCB (rIsi K) (tCons ta (tCons (tC (.ty m)) tNil))) σ H (.bl (d.isSome && b)) := by
  cases d with
  | none =>
    obtain ⟨_, rfl⟩ := r
    exact val_isi ha ty_non h2
  | some x =>
    have := val_isi ha (ty r.2) h1
    rw [show ((some x).isSome && b) = b by cases b <;> rfl]
    exact this
theorem tyr_int {x : Int} (r : yInt.rep K H F v x) : TyX K H v (.type "int") := by obtain ⟨_, rfl⟩ := r; exact ty_int
theorem tyr_bool {x : Bool} (r : yBool.rep K H F v x) : TyX K H v (.type "bool") := by obtain ⟨_, rfl⟩ := r; exact ty_bl
theorem tyr_str {x : List Nat} (r : yStr.rep K H F v x) : TyX K H v (.type "str") := by obtain ⟨_, rfl⟩ := r; exact ty_str
end
/-! ### data with texts -/
structure DatO {α : Type} (τ : Ty α) (n : Nat) where
  f : α → PyData
  ok : α → Bool
  dec : DecidableEq α
  dp : ∀ {K : PySem.W.Frag} {H : Hp} {F : List Addr} {v : V} {d : α}, τ.rep K H F v d → Dp K H v (f d)
  lay : ∀ d, ok d = true → (f d).canLay0 = true
  dpt : ∀ d, (f d).depth ≤ n
  eqv : ∀ d e, PyData.eqv (f d) (f e) = decide (d = e)
def Dat.o {α : Type} {τ : Ty α} {n : Nat} (d : Dat τ n) : DatO τ n := ⟨d.f, fun _ => true, d.dec, d.dp, fun x _ => d.lay x, d.dpt, d.eqv⟩
def dao_str : DatO yStr 0 where
  f := fun l => .str (toS l)
  ok := Mi.okS
  dec := inferInstance
  dp := fun h => by obtain ⟨_, rfl⟩ := h; exact .str _
  lay := fun d h => by
    have e : (toS d).cps = d.toArray := rfl
    simp only [PyData.canLay0, PyData.strOk, e]
    unfold Mi.okS at h
    simpa using h
  dpt := fun d => by simp [PyData.depth]
  eqv := fun d e => by
    simp only [PyData.eqv]
    rw [beq_dec]
    by_cases h : d = e
    · subst h; simp
    · rw [decide_eq_false h, decide_eq_false]
      intro z; exact h (toS_inj z)
section
variable {α β : Type} {τ : Ty α} {n m : Nat}
theorem layAllO {f : α → PyData} {ok : α → Bool} (h : ∀ d, ok d = true → (f d).canLay0 = true) : ∀ xs : List α, xs.all ok = true → PyData.canLayAll0 (xs.map f) = true
  | [], _ => by simp [PyData.canLayAll0]
  | x :: xs, q => by
    rw [List.all_cons, Bool.and_eq_true] at q
    simp [PyData.canLayAll0, h x q.1, layAllO h xs q.2]
def dao_lst (d : DatO τ n) : DatO (yLst τ) (n + 1) where
  f := fun xs => .list (xs.map d.f)
  ok := fun xs => xs.all d.ok
  dec := @instDecidableEqList _ d.dec
  dp := fun h => by
    obtain ⟨a, vs, rfl, s, q⟩ := lst_sq h
    exact .lst s (dpAll (fun u x z => d.dp z) q)
  lay := fun xs h => by simp only [PyData.canLay0]; exact layAllO d.lay xs h
  dpt := fun xs => by simp only [PyData.depth]; exact Nat.succ_le_succ (dptAll d.dpt xs)
  eqv := fun xs ys => by simp only [PyData.eqv]; exact @eqvAllL _ d.dec _ d.eqv xs ys
def dao_lsg (d : DatO τ n) : DatO (yLsg τ) (n + 1) where
  f := fun xs => .list (xs.map d.f)
  ok := fun xs => xs.all d.ok
  dec := @instDecidableEqList _ d.dec
  dp := fun h => by
    obtain ⟨a, vs, rfl, _, s, q⟩ := lsg_sq h
    exact .lst s (dpAll (fun u x z => by obtain ⟨Fi, ru, _⟩ := z; exact d.dp ru) q)
  lay := fun xs h => by simp only [PyData.canLay0]; exact layAllO d.lay xs h
  dpt := fun xs => by simp only [PyData.depth]; exact Nat.succ_le_succ (dptAll d.dpt xs)
  eqv := fun xs ys => by simp only [PyData.eqv]; exact @eqvAllL _ d.dec _ d.eqv xs ys
def dao_tupl (d : DatO τ n) : DatO (yTupL τ) (n + 1) where
  f := fun xs => .tuple (xs.map d.f)
  ok := fun xs => xs.all d.ok
  dec := @instDecidableEqList _ d.dec
  dp := fun h => by
    obtain ⟨a, vs, rfl, s, q⟩ := tupl_sq h
    exact .tup s (dpAll (fun u x z => d.dp z) q)
  lay := fun xs h => by simp only [PyData.canLay0]; exact layAllO d.lay xs h
  dpt := fun xs => by simp only [PyData.depth]; exact Nat.succ_le_succ (dptAll d.dpt xs)
  eqv := fun xs ys => by simp only [PyData.eqv]; exact @eqvAllL _ d.dec _ d.eqv xs ys
end
structure SatO {α : Type} (ts : Tys α) (n : Nat) where
  f : α → List PyData
  ok : α → Bool
  dec : DecidableEq α
  dp : ∀ {K : PySem.W.Frag} {H : Hp} {F : List Addr} {vs : List V} {d : α}, ts.rep K H F vs d → DpAll K H vs (f d)
  lay : ∀ d, ok d = true → PyData.canLayAll0 (f d) = true
  dpt : ∀ d, PyData.depthAll (f d) ≤ n
  eqv : ∀ d e, PyData.eqvAll (f d) (f e) = decide (d = e)
section
variable {α β : Type} {τ : Ty α} {ts : Tys β} {n m : Nat}
def sao_one (d : DatO τ n) : SatO (sOne τ) n where
  f := fun x => [d.f x]
  ok := d.ok
  dec := d.dec
  dp := fun h => by obtain ⟨v, rfl, r⟩ := h; exact .cons (d.dp r) .nil
  lay := fun x h => by simp [PyData.canLayAll0, d.lay x h]
  dpt := fun x => by simp only [PyData.depthAll]; exact Nat.max_le.mpr ⟨d.dpt x, Nat.zero_le _⟩
  eqv := fun x y => by simp [PyData.eqvAll, d.eqv x y]
def sao_cons (d : DatO τ n) (s : SatO ts m) : SatO (sCons τ ts) (max n m) where
  f := fun x => d.f x.1 :: s.f x.2
  ok := fun x => d.ok x.1 && s.ok x.2
  dec := @instDecidableEqProd _ _ d.dec s.dec
  dp := fun h => by obtain ⟨v, ws, F1, F2, rfl, _, r, q⟩ := h; exact .cons (d.dp r) (s.dp q)
  lay := fun x h => by
    rw [Bool.and_eq_true] at h
    simp [PyData.canLayAll0, d.lay x.1 h.1, s.lay x.2 h.2]
  dpt := fun x => by
    simp only [PyData.depthAll]
    have h1 := d.dpt x.1
    have h2 := s.dpt x.2
    omega
  eqv := fun x y => by
    obtain ⟨x1, x2⟩ := x
    obtain ⟨y1, y2⟩ := y
    letI := d.dec
    letI := s.dec
    simp only [PyData.eqvAll, d.eqv x1 y1, s.eqv x2 y2]
    by_cases h1 : x1 = y1
    · by_cases h2 : x2 = y2
      · subst h1 h2; simp
      · have : ¬ ((x1, x2) = (y1, y2)) := fun e => h2 (Prod.mk.inj e).2
        simp only [h2, decide_false, Bool.and_false]
        exact (decide_eq_false this).symm
    · have : ¬ ((x1, x2) = (y1, y2)) := fun e => h1 (Prod.mk.inj e).1
      simp only [h1, decide_false, Bool.false_and]
      exact (decide_eq_false this).symm
def dao_tup (s : SatO ts m) : DatO (yTup ts) (m + 1) where
  f := fun x => .tuple (s.f x)
  ok := s.ok
  dec := s.dec
  dp := fun h => by obtain ⟨a, vs, rfl, sq, q⟩ := h; exact .tup sq (s.dp q)
  lay := fun x h => by simp only [PyData.canLay0]; exact s.lay x h
  dpt := fun x => by simp only [PyData.depth]; exact Nat.succ_le_succ (s.dpt x)
  eqv := fun x y => by simp only [PyData.eqv]; exact s.eqv x y
theorem DatO.shaped (d : DatO τ n) (hn : n ≤ 64) (x : α) (h : d.ok x = true) : SeqAt.shaped (d.f x) = true := by
  unfold SeqAt.shaped
  rw [d.lay x h, decide_eq_true (Nat.le_trans (d.dpt x) hn)]
  rfl
variable {K : PySem.W.Frag} {H : Hp} {F1 F2 : List Addr} {v u : V} {Q : VK} {x y : α}
theorem okB {a b : Bool} {z : Unit} (h : Mi.guardO (a && b) = some z) : a = true ∧ b = true := by
  unfold Mi.guardO at h
  split at h
  · rename_i q; rw [Bool.and_eq_true] at q; exact q
  · cases h
theorem w_eqO [i : DecidableEq α] {z : Unit} (d : DatO τ n) (r : τ.rep K H F1 v x) (q : τ.rep K H F2 u y) (g : Mi.guardO (d.ok x && d.ok y) = some z) (k : Q (.bl (decide (x = y))) H) (hn : n ≤ 64 := by decide) : rEqD K v u H Q :=
  ⟨_, _, d.dp r, d.dp q, d.shaped hn x (okB g).1, d.shaped hn y (okB g).2, by
    have e : @decide (x = y) (d.dec x y) = @decide (x = y) (i x y) := by congr
    rw [d.eqv, e]; exact k⟩
theorem w_neO [i : DecidableEq α] {z : Unit} (d : DatO τ n) (r : τ.rep K H F1 v x) (q : τ.rep K H F2 u y) (g : Mi.guardO (d.ok x && d.ok y) = some z) (k : Q (.bl (!decide (x = y))) H) (hn : n ≤ 64 := by decide) : rNeD K v u H Q :=
  ⟨_, _, d.dp r, d.dp q, d.shaped hn x (okB g).1, d.shaped hn y (okB g).2, by
    have e : @decide (x = y) (d.dec x y) = @decide (x = y) (i x y) := by congr
    rw [d.eqv, e]; exact k⟩
end
end G

namespace G
open PySem PySem.Spec PyProof.Rows L2
def topS (i : Nat) : Stmt := PySem.Challenge.pw_fogfleet_k15_readings_of_a_word.main.body.getD i (.Pass ⟨0, 0, 0, 0⟩)
structure Cs (mg : Str → Option Value) : Prop where
  c_LAST_PLACE : ∃ t, mg "LAST_PLACE" = some (.int 11 t)
  c_MOST_REACH : ∃ t, mg "MOST_REACH" = some (.int 3 t)
  c_MOST_SIGNS : ∃ t, mg "MOST_SIGNS" = some (.int 12 t)
  c_SIGNS : ∃ t, mg "SIGNS" = some (.str "*." t)
abbrev nm_Light : List Str := ["place", "pattern", "reach"]
abbrev ty_Light : Tys (Int × (List Nat) × Int) := (sCons yInt (sCons yStr (sOne yInt)))
abbrev kw_Light : List (Str × V) := [("reach", .int 1)]
section
variable {P : Program} {w : World} {K : PySem.W.Frag} {mg : Str → Option Value}
abbrev s_is_pattern : Stmt := topS 8
abbrev N_is_pattern : List Str := ["text", "sign"]
theorem sc_is_pattern : FnScope ["text", "sign"] ["text"] (defScope s_is_pattern) := ⟨rfl, rfl, rfl, by decide +kernel, rfl, by decide +kernel, by decide +kernel⟩
def sp_is_pattern (K : PySem.W.Frag) : Sp := fun vs H Q _ => ∃ (d0 : (List Nat)) (r : Bool), vs = [(.str (toS d0))] ∧ Mi.m_is_pattern d0 = some r ∧ ∀ H', Chg ([]) H H' → Q (.bl r) H'
theorem ok_is_pattern (B : Bi mg) (CN : Cs mg) (D : Dfn K mg "is_pattern" s_is_pattern)  : Cal P w K mg "is_pattern" ["text"] 1 (sp_is_pattern K) := by
  obtain ⟨f, fd, F, g⟩ := D.ex
  refine ⟨f, fd, g, F.kp, bindsF F (fun _ _ _ _ _ _ us hl => match us, hl with | [_], _ => rfl), fun base => F.ok sc_is_pattern (fun vs H Q E h => ?_) (fun cdv A outer s H0 vs Q E hr h => ?_)⟩
  · obtain ⟨d0, r, rfl, hm, hQ⟩ := h; rfl
  ·
    obtain ⟨d0, r, rfl, hm, hQ⟩ := h
    refine ⟨_, pss_cons (ps_if (PW.pt (pw_or (pt_cmpR op_lt (pe_callB cl_lenTx (by rfl) B.len PySem.boot_len (pa_cons (pv 0) pa_nil)) pe_int (nomark _)) (pw_or1 (pt_cmpR op_gt (pe_callB cl_lenTx (by rfl) B.len PySem.boot_len (pa_cons (pv 0) pa_nil)) (pe_glob (v := .int 12) (by rfl) CN.c_MOST_SIGNS.choose_spec ⟨_, rfl⟩) (nomark _))))) (pss_cons (ps_ret pe_bl) pss_nil) (pss_nil))
      (pss_cons (ps_ret (pe_cmpR op_eq (pe_callB (cl_len (K := K)) (by rfl) B.len PySem.boot_len (pa_cons (pe_lc (own := [("sign", 1)]) rfl sc_is_pattern.nd (pi_str (pv 0)) (blkOk_by (own := [("sign", 1)]) (N := N_is_pattern) (sc := defScope s_is_pattern) (by decide +kernel)) (fun _ _ _ _ _ => (pg_name (i := 1) sc_is_pattern.nd rfl (.inl rfl))) (fun _ _ _ _ _ => (pts_one (pt_cmpR op_ni_c (pv 1) (pe_glob (v := .str "*.") (by rfl) CN.c_SIGNS.choose_spec ⟨_, rfl⟩) (by rfl)))) (fun _ _ _ _ _ => (pv 1))) pa_nil)) pe_int (nomark _))) pss_nil), ?_⟩
    have c0 : Chg ([] : List Addr) H0 H0 := Chg.refl H0
    unfold Mi.m_is_pattern at hm
    obtain ⟨x1, hx1, hm⟩ := Mi.bnd hm
    obtain ⟨b4, hb4, hm⟩ := Mi.bnd hm
    refine q_if (ans_orO (ans_t (val_lt (val_lenTx hx1 (val_var rfl)) val_c)) hb4 (fun hs2 => by (obtain ⟨x3, hx3, hs2⟩ := Mi.bnd hs2; cases hs2; exact (ans_t (val_gt (val_lenTx hx3 (val_var rfl)) val_c))))) (fun hb => ?_) (fun hb => ?_)
    ·
      replace hm := Mi.ifT hb hm
      refine q_ret ?_
      refine c_val val_c ?_
      obtain rfl := Option.some.inj hm
      exact hQ _ c0 
    replace hm := Mi.ifF hb hm
    refine w_fall ?_
    refine q_ret ?_
    refine w_op ?_
    refine w_cb ?_
    refine w_cons ?_
    refine w_lc ?_
    refine w_iStr ?_
    refine c_val (val_var rfl) ?_
    obtain ⟨e5, he5, hm⟩ := Mi.bnd hm
    refine kc_str (K := K) (τ := yStr) (a := d0) (fun D7 i H' => ∃ (s6 : (List (List Nat))), Chg ([] : List Addr) H0 H' ∧ (yLst yStr).rep K H' [D7] (.ref D7) s6 ∧ (∀ a ∈ [D7], H0 a = none) ∧ Mi.forN (Mi.m_is_pattern_b1) s6 (List.drop i (Mi.signs d0)) = some e5) (fun D7 H12 np11 c10 r8 => ⟨([] : (List (List Nat))), c0.trans c10.none, r8, one_fresh (c0.dom D7 np11), he5⟩) (fun D7 i15 x14 H16 hx13 hp => ?_) (fun D7 H' np11 hp => ?_)
    ·
      obtain ⟨s6, c0, r8, n9, hle5⟩ := hp
      obtain ⟨_, hbe5, hle5⟩ := Mi.forN_go hle5 hx13
      unfold Mi.m_is_pattern_b1 at hbe5
      refine g_name (σ' := [some (.str (toS d0)), some (.str (toS x14))]) rfl ?_
      refine ⟨rfl, ?_⟩
      obtain ⟨b21, hb21, hbe5⟩ := Mi.bnd hbe5
      refine c_ans (ans_t (val_niC hb21 (val_var rfl) (val_cS (a := ([42, 46] : List Nat)) (by decide +kernel)))) ?_
      refine c_if (fun hb => ?_) (fun hb => ?_)
      ·
        replace hbe5 := Mi.ifT hb hbe5
        refine c_val (val_var rfl) ?_
        obtain ⟨x22, hx22, hbe5⟩ := Mi.bnd hbe5
        refine e_app r8 yStr_i hx22 fun H24 c23 r8 => ?_
        have c0 := c0.join c23 (fun a h => .inr (n9 a h))
        obtain rfl := Option.some.inj hbe5
        exact ⟨_, c0, r8, n9, hle5⟩
      ·
        replace hbe5 := Mi.ifF hb hbe5
        obtain rfl := Option.some.inj hbe5
        exact ⟨_, c0, r8, n9, hle5⟩
    obtain ⟨s6, c0, r8, n9, hle5⟩ := hp
    obtain rfl := Mi.forN_end hle5
    refine w_nil ?_
    refine w_lenL r8 ?_
    refine c_val val_c ?_
    refine w_eqI ?_
    obtain rfl := Option.some.inj hm
    exact hQ _ c0 
abbrev s_Light_init : Stmt := inClass (topS 9) 0
abbrev N_Light_init : List Str := ["self", "place", "pattern", "reach"]
theorem sc_Light_init : FnScope ["self", "place", "pattern", "reach"] ["self", "place", "pattern", "reach"] (defScope s_Light_init) := ⟨rfl, rfl, rfl, by decide +kernel, rfl, by decide +kernel, by decide +kernel⟩
def sp_Light_init (K : PySem.W.Frag) (C_Light : Addr) : Sp := fun vs H Q _ => ∃ (x0 dx0 : Addr) (d1 : Int) (d2 : (List Nat)) (d3 : Int) (r : (Int × (List Nat) × Int)), vs = [.ref x0, (.int d1), (.str (toS d2)), (.int d3)] ∧ (yPart C_Light dx0 []).rep K H [x0] (.ref x0) [] ∧ Mi.m_Light_init d1 d2 d3 = some r ∧ ∀ H', Chg [x0] H H' → (yObj C_Light nm_Light ty_Light).rep K H' [] (.ref x0) r → Q .non H'
theorem ok_Light_init (B : Bi mg) (CN : Cs mg) {C_Light : Addr} (T_Light : Tx K mg C_Light "Light" nm_Light) (C_is_pattern : Cal P w K mg "is_pattern" ["text"] 1 (sp_is_pattern K)) (D : DfnI K C_Light "Light.__init__" s_Light_init kw_Light) : CalI P w K mg C_Light "Light.__init__" s_Light_init kw_Light ["self", "place", "pattern", "reach"] 2 (sp_Light_init K C_Light) := by
  obtain ⟨f, fd, F, g⟩ := D.ex
  refine ⟨f, fd, g, F, fun base => F.ok sc_Light_init (fun vs H Q E h => ?_) (fun cdv A outer s H0 vs Q E hr h => ?_)⟩
  · obtain ⟨x0, dx0, d1, d2, d3, r, rfl, rs, hm, hQ⟩ := h; rfl
  ·
    obtain ⟨x0, dx0, d1, d2, d3, r, rfl, rs, hm, hQ⟩ := h
    refine ⟨_, pss_cons (ps_if (PW.pt (pw_or (pt_cmpR op_lt (pv 1) pe_int (nomark _)) (pw_or1 (pt_cmpR op_gt (pv 1) (pe_glob (v := .int 11) (by rfl) CN.c_LAST_PLACE.choose_spec ⟨_, rfl⟩) (nomark _))))) (pss_cons ps_never pss_nil) (pss_nil))
      (pss_cons (ps_if (pt_not (pt_val (pe_cc C_is_pattern hr (pa_cons (pv 2) pa_nil)))) (pss_cons ps_never pss_nil) (pss_nil))
      (pss_cons (ps_if (PW.pt (pw_or (pt_cmpR op_lt (pv 3) pe_int (nomark _)) (pw_or1 (pt_cmpR op_gt (pv 3) (pe_glob (v := .int 3) (by rfl) CN.c_MOST_REACH.choose_spec ⟨_, rfl⟩) (nomark _))))) (pss_cons ps_never pss_nil) (pss_nil))
      (pss_cons (ps_fld (pv 0) (pv 1) rfl)
      (pss_cons (ps_fld (pv 0) (pv 2) rfl)
      (pss_cons (ps_fld (pv 0) (pv 3) rfl)
      (pss_nil)))))), ?_⟩
    have c0 : Chg ([x0]) H0 H0 := Chg.refl H0
    unfold Mi.m_Light_init at hm
    refine q_if (ans_orB (ans_t (val_lt (val_var rfl) val_c)) (fun _ => (ans_t (val_gt (val_var rfl) val_c)))) (fun hb => ?_) (fun hb => ?_)
    ·
      replace hm := Mi.ifT hb hm
      cases hm
    replace hm := Mi.ifF hb hm
    refine w_fall ?_
    refine q_ifS ?_
    refine w_not ?_
    refine w_B ?_
    refine w_call ?_
    refine w_args (va_cons (val_var rfl) va_nil) ?_
    obtain ⟨q2, hq2, hm⟩ := Mi.bnd hm
    refine ⟨d2, q2, rfl, hq2, fun H4 c3  => ?_⟩
    have rs := Ty.ex rs c3
    have c0 := c0.trans c3.none
    refine ⟨_, rfl, ?_⟩
    refine c_if (fun hb => ?_) (fun hb => ?_)
    ·
      replace hm := Mi.ifT hb hm
      cases hm
    replace hm := Mi.ifF hb hm
    refine w_fall ?_
    refine q_if (ans_orB (ans_t (val_lt (val_var rfl) val_c)) (fun _ => (ans_t (val_gt (val_var rfl) val_c)))) (fun hb => ?_) (fun hb => ?_)
    ·
      replace hm := Mi.ifT hb hm
      cases hm
    replace hm := Mi.ifF hb hm
    refine w_fall ?_
    refine q_fld ?_
    refine c_val (val_var rfl) ?_
    refine c_val (val_var rfl) ?_
    refine m_fldP rs T_Light.cls (T_Light.na "place" (by decide +kernel)) (by decide +kernel) rfl (by decide) rfl fun H7 c6 rs => ?_
    have c0 := c0.join c6 (fun a h => .inl (h))
    have rs : (yPart C_Light dx0 (["place"] : List Str)).rep K _ [x0] (.ref x0) [(.int d1)] := rs
    refine q_fld ?_
    refine c_val (val_var rfl) ?_
    refine c_val (val_var rfl) ?_
    refine m_fldP rs T_Light.cls (T_Light.na "pattern" (by decide +kernel)) (by decide +kernel) rfl (by decide) rfl fun H9 c8 rs => ?_
    have c0 := c0.join c8 (fun a h => .inl (h))
    have rs : (yPart C_Light dx0 (["place", "pattern"] : List Str)).rep K _ [x0] (.ref x0) [(.int d1), (.str (toS d2))] := rs
    refine q_fld ?_
    refine c_val (val_var rfl) ?_
    refine c_val (val_var rfl) ?_
    refine m_fldE (ts := ty_Light) (d := (d1, d2, d3)) rs T_Light.cls (T_Light.na "reach" (by decide +kernel)) (by decide +kernel) rfl (by decide) rfl ⟨_, _, _, _, rfl, rfl, yInt_i, ⟨_, _, _, _, rfl, rfl, yStr_i, ⟨_, rfl, yInt_i⟩⟩⟩ fun H11 c10 rs => ?_
    have c0 := c0.join c10 (fun a h => .inl (h))
    refine w_next ?_
    obtain rfl := Option.some.inj hm
    exact hQ _ c0 rs
abbrev s_flashes : Stmt := topS 10
abbrev N_flashes : List Str := ["light", "hour", "count", "size", "turn"]
theorem sc_flashes : FnScope ["light", "hour", "count", "size", "turn"] ["light", "hour", "count"] (defScope s_flashes) := ⟨rfl, rfl, rfl, by decide +kernel, rfl, by decide +kernel, by decide +kernel⟩
def sp_flashes (K : PySem.W.Frag) (C_Light : Addr) : Sp := fun vs H Q _ => ∃ (v0 : V) (d0 : (Int × (List Nat) × Int)) (d1 : Int) (d2 : Int) (r : (List Nat)), vs = [v0, (.int d1), (.int d2)] ∧ (yObj C_Light nm_Light ty_Light).rep K H [] v0 d0 ∧ Mi.m_flashes d0 d1 d2 = some r ∧ ∀ H', Chg ([]) H H' → Q (.str (toS r)) H'
theorem ok_flashes (B : Bi mg) (CN : Cs mg) (D : Dfn K mg "flashes" s_flashes) {C_Light : Addr} (T_Light : Tx K mg C_Light "Light" nm_Light) : Cal P w K mg "flashes" ["light", "hour", "count"] 1 (sp_flashes K C_Light) := by
  obtain ⟨f, fd, F, g⟩ := D.ex
  refine ⟨f, fd, g, F.kp, bindsF F (fun _ _ _ _ _ _ us hl => match us, hl with | [_, _, _], _ => rfl), fun base => F.ok sc_flashes (fun vs H Q E h => ?_) (fun cdv A outer s H0 vs Q E hr h => ?_)⟩
  · obtain ⟨v0, d0, d1, d2, r, rfl, r0, hm, hQ⟩ := h; rfl
  ·
    obtain ⟨v0, d0, d1, d2, r, rfl, r0, hm, hQ⟩ := h
    refine ⟨_, pss_cons (ps_set (i := 3) sc_flashes.nd rfl (.inr rfl) (pe_callB cl_lenTx (by rfl) B.len PySem.boot_len (pa_cons (pe_fldk (K := K) (pv 0) (by rfl)) pa_nil)))
      (pss_cons (ps_ret (pe_joinQ (K := K) pe_str (pe_lc (own := [("turn", 4)]) rfl sc_flashes.nd (pi_range1 (by rfl) B.range (pa_cons (pv 2) pa_nil)) (blkOk_by (own := [("turn", 4)]) (N := N_flashes) (sc := defScope s_flashes) (by decide +kernel)) (fun _ _ _ _ _ => (pg_name (i := 4) sc_flashes.nd rfl (.inl rfl))) (fun _ _ _ _ _ => pts_nil) (fun _ _ _ _ _ => (pe_ix ix_str (pe_fldk (K := K) (pv 0) (by rfl)) (pe_op op_mod (pe_op op_add (pv 1) (pv 4)) (pv 3)) (fun _ _ => rfl)))))) pss_nil), ?_⟩
    have c0 : Chg ([] : List Addr) H0 H0 := Chg.refl H0
    unfold Mi.m_flashes at hm
    obtain ⟨u1, r2, kx3, ku4⟩ := fld_obj (n := 1) (f := "pattern") (atS at0) (by decide +kernel) rfl T_Light.cls (T_Light.na "pattern" (by decide +kernel)) r0
    obtain ⟨_, rfl⟩ := r2
    obtain ⟨x5, hx5, hm⟩ := Mi.bnd hm
    obtain ⟨size6, hsize6, hm⟩ := Mi.letE hm
    refine q_setE (val_lenTx hx5 (ku4 (val_var rfl))) (congrArg V.int hsize6) (σ' := [some v0, some (.int d1), some (.int d2), some (.int size6), none]) rfl ?_
    refine q_ret ?_
    refine w_m1 ?_
    refine c_val (val_cS (a := ([] : List Nat)) (by decide +kernel)) ?_
    refine ⟨⟨_, rfl⟩, ?_⟩
    refine w_lc ?_
    refine w_iRng1 ?_
    refine w_args (va_cons (val_var rfl) va_nil) ?_
    obtain ⟨g7, hg7, hm⟩ := Mi.bnd hm
    obtain ⟨e8, he8, hm⟩ := Mi.bnd hm
    refine kc_rng1 (K := K) (τ := yStr) hg7 (fun D10 i H' => ∃ (s9 : (List (List Nat))), Chg ([] : List Addr) H0 H' ∧ (yObj C_Light nm_Light ty_Light).rep K H' [] v0 d0 ∧ (yLst yStr).rep K H' [D10] (.ref D10) s9 ∧ (∀ a ∈ [D10], H0 a = none) ∧ Mi.forN (Mi.m_flashes_b1 d0 d1 size6) s9 (List.drop i g7) = some e8) (fun D10 H15 np14 c13 r11 => ⟨([] : (List (List Nat))), c0.trans c13.none, (Ty.fz r0 c13), r11, one_fresh (c0.dom D10 np14), he8⟩) (fun D10 i18 x17 H19 hx16 hp => ?_) (fun D10 H' np14 hp => ?_)
    ·
      obtain ⟨s9, c0, r0, r11, n12, hle8⟩ := hp
      obtain ⟨_, hbe8, hle8⟩ := Mi.forN_go hle8 hx16
      unfold Mi.m_flashes_b1 at hbe8
      refine g_name (σ' := [some v0, some (.int d1), some (.int d2), some (.int size6), some (.int x17)]) rfl ?_
      refine ⟨rfl, ?_⟩
      refine w_yes ?_
      refine iteT ?_
      obtain ⟨u24, r25, kx26, ku27⟩ := fld_obj (n := 1) (f := "pattern") (atS at0) (by decide +kernel) rfl T_Light.cls (T_Light.na "pattern" (by decide +kernel)) r0
      obtain ⟨_, rfl⟩ := r25
      obtain ⟨x28, hx28, hbe8⟩ := Mi.bnd hbe8
      obtain ⟨x29, hx29, hbe8⟩ := Mi.bnd hbe8
      refine c_val (val_ixS hx29 (ku27 (val_var rfl)) (val_mod (val_add (val_var rfl) (val_var rfl)) (val_var rfl) hx28)) ?_
      obtain ⟨x30, hx30, hbe8⟩ := Mi.bnd hbe8
      refine e_app r11 yStr_i hx30 fun H32 c31 r11 => ?_
      have r0 := Ty.fz r0 c31
      have c0 := c0.join c31 (fun a h => .inr (n12 a h))
      obtain rfl := Option.some.inj hbe8
      exact ⟨_, c0, r0, r11, n12, hle8⟩
    obtain ⟨s9, c0, r0, r11, n12, hle8⟩ := hp
    obtain rfl := Mi.forN_end hle8
    obtain ⟨x33, hx33, hm⟩ := Mi.bnd hm
    refine w_joinL r11 hx33 ?_
    obtain rfl := Option.some.inj hm
    exact hQ _ c0 
abbrev s_readings : Stmt := topS 12
abbrev N_readings : List Str := ["lights", "word", "found", "index", "light", "shift"]
theorem sc_readings : FnScope ["lights", "word", "found", "index", "light", "shift"] ["lights", "word"] (defScope s_readings) := ⟨rfl, rfl, rfl, by decide +kernel, rfl, by decide +kernel, by decide +kernel⟩
def sp_readings (K : PySem.W.Frag) (C_Light : Addr) : Sp := fun vs H Q _ => ∃ (v0 : V) (F0 : List Addr) (d0 : (List (Int × (List Nat) × Int))) (d1 : (List Nat)) (r : (List (Int × Int))), vs = [v0, (.str (toS d1))] ∧ (yLst (yObj C_Light nm_Light ty_Light)).rep K H F0 v0 d0 ∧ Mi.m_readings d0 d1 = some r ∧ ∀ v H' F, Chg ([]) H H' → (yLst (yTup (sCons yInt (sOne yInt)))).rep K H' F v r → (∀ a ∈ F, H a = none) → Q v H'
theorem ok_readings (B : Bi mg) (CN : Cs mg) (D : Dfn K mg "readings" s_readings) {C_Light : Addr} (T_Light : Tx K mg C_Light "Light" nm_Light) (C_flashes : Cal P w K mg "flashes" ["light", "hour", "count"] 1 (sp_flashes K C_Light)) : Cal P w K mg "readings" ["lights", "word"] 2 (sp_readings K C_Light) := by
  obtain ⟨f, fd, F, g⟩ := D.ex
  refine ⟨f, fd, g, F.kp, bindsF F (fun _ _ _ _ _ _ us hl => match us, hl with | [_, _], _ => rfl), fun base => F.ok sc_readings (fun vs H Q E h => ?_) (fun cdv A outer s H0 vs Q E hr h => ?_)⟩
  · obtain ⟨v0, F0, d0, d1, r, rfl, r0, hm, hQ⟩ := h; rfl
  ·
    obtain ⟨v0, F0, d0, d1, r, rfl, r0, hm, hQ⟩ := h
    refine ⟨_, pss_cons (ps_set (i := 2) sc_readings.nd rfl (.inl rfl) (pe_lst pa_nil))
      (pss_cons (ps_for PassesOwn.never rfl (pi_enum (by rfl) B.enumerate (pa_cons (pv 0) pa_nil)) (pg_tup rfl (pgs_cons (pg_name (i := 3) sc_readings.nd rfl (.inl rfl)) (pgs_cons (pg_name (i := 4) sc_readings.nd rfl (.inl rfl)) pgs_nil))) (pss_cons (ps_for PassesOwn.never rfl (pi_range1 (by rfl) B.range (pa_cons (pe_callB cl_lenTx (by rfl) B.len PySem.boot_len (pa_cons (pe_fldk (K := K) (pv 4) (by rfl)) pa_nil)) pa_nil)) (pg_name (i := 5) sc_readings.nd rfl (.inl rfl)) (pss_cons (ps_if (pt_cmpR op_eq (pe_cc C_flashes hr (pa_cons (pv 4) (pa_cons (pv 5) (pa_cons (pe_callB cl_lenTx (by rfl) B.len PySem.boot_len (pa_cons (pv 1) pa_nil)) pa_nil)))) (pv 1) (nomark _)) (pss_cons (ps_expr (pe_bm PySem.F.plainAttrs_list PySem.F.slot_list_append PySem.F.type_list_append mt_append (pv 2) (pa_cons (pe_tup (pa_cons (pv 3) (pa_cons (pv 5) pa_nil))) pa_nil)))
      (pss_nil)) (pss_nil))
      (pss_nil)))
      (pss_nil)))
      (pss_cons (ps_ret (pv 2)) pss_nil)), ?_⟩
    have c0 : Chg ([] : List Addr) H0 H0 := Chg.refl H0
    unfold Mi.m_readings at hm
    refine q_asg ?_
    refine w_lst ?_
    refine w_args va_nil ?_
    refine e_lst (K := K) (τ := (yTup (sCons yInt (sOne yInt)))) (by exact Nat.le_of_ble_eq_true rfl) .nil fun p1 H5 np4 c2 r3 => ?_
    have d6 : Dj F0 [p1] := Ty.nin r0 np4
    have n7 : ∀ a ∈ [p1], H0 a = none := one_fresh (c0.dom p1 np4)
    have r0 := Ty.ex r0 c2
    have c0 := c0.trans c2.none
    refine g_name (σ' := [some v0, some (.str (toS d1)), some (.ref p1), none, none, none]) rfl ?_
    refine q_for ?_
    refine w_iEnum ?_
    refine w_args (va_cons (val_var rfl) va_nil) ?_
    obtain ⟨e8, he8, hm⟩ := Mi.bnd hm
    refine l_enum r0 (fun i σ' H' => ∃ (s9 : (List (Int × Int))) (y10 : Option V) (y11 : Option V) (y12 : Option V), σ' = [some v0, some (.str (toS d1)), some (.ref p1), y10, y11, y12] ∧ Chg ([] : List Addr) H0 H' ∧ (yLst (yObj C_Light nm_Light ty_Light)).rep K H' F0 v0 d0 ∧ (yLst (yTup (sCons yInt (sOne yInt)))).rep K H' [p1] (.ref p1) s9 ∧ Mi.forN (Mi.m_readings_b1 d1) s9 (List.drop i (Mi.enumF 0 d0)) = some e8) ⟨([] : (List (Int × Int))), none, none, none, rfl, c0, r0, r3, he8⟩ (fun i σ' H' hp => by obtain ⟨s9, y10, y11, y12, rfl, c0, r0, r3, _⟩ := hp; exact r0) (fun i15 x14 u16 σ' H' H19 hx13 c18 r17 hp => ?_) (fun σ' H' hp => ?_)
    ·
      obtain ⟨s9, y10, y11, y12, rfl, c0, r0, r3, hle8⟩ := hp
      obtain ⟨_, hbe8, hle8⟩ := Mi.forN_go hle8 hx13
      unfold Mi.m_readings_b1 at hbe8
      have r0 := Ty.ex r0 c18
      have r3 := Ty.ex r3 c18
      have c0 := c0.trans c18.none
      refine st_eq (σ' := [some v0, some (.str (toS d1)), some (.ref p1), some (.int x14.1), some u16, y12]) rfl ?_
      refine q_for ?_
      refine w_iRng1 ?_
      obtain ⟨u20, r21, kx22, ku23⟩ := fld_obj (n := 1) (f := "pattern") (atS at0) (by decide +kernel) rfl T_Light.cls (T_Light.na "pattern" (by decide +kernel)) r17
      obtain ⟨_, rfl⟩ := r21
      obtain ⟨x24, hx24, hbe8⟩ := Mi.bnd hbe8
      refine w_args (va_cons (val_lenTx hx24 (ku23 (val_var rfl))) va_nil) ?_
      obtain ⟨g25, hg25, hbe8⟩ := Mi.bnd hbe8
      obtain ⟨e26, he26, hbe8⟩ := Mi.bnd hbe8
      refine l_rng1 hg25 (fun i σ' H' => ∃ (s27 : (List (Int × Int))) (y28 : Option V), σ' = [some v0, some (.str (toS d1)), some (.ref p1), some (.int x14.1), some u16, y28] ∧ Chg ([] : List Addr) H0 H' ∧ (yLst (yObj C_Light nm_Light ty_Light)).rep K H' F0 v0 d0 ∧ (yLst (yTup (sCons yInt (sOne yInt)))).rep K H' [p1] (.ref p1) s27 ∧ (yObj C_Light nm_Light ty_Light).rep K H' [] u16 x14.2 ∧ Mi.forN (Mi.m_readings_b2 d1 x14) s27 (List.drop i g25) = some e26) ⟨s9, y12, rfl, c0, r0, r3, r17, he26⟩ (fun i31 x30 σ' H' hx29 hp => ?_) (fun σ' H' hp => ?_)
      ·
        obtain ⟨s27, y28, rfl, c0, r0, r3, r17, hle26⟩ := hp
        obtain ⟨_, hbe26, hle26⟩ := Mi.forN_go hle26 hx29
        unfold Mi.m_readings_b2 at hbe26
        refine g_name (σ' := [some v0, some (.str (toS d1)), some (.ref p1), some (.int x14.1), some u16, some (.int x30)]) rfl ?_
        obtain ⟨s32, hs32, hbe26⟩ := Mi.bnd hbe26
        refine s_join (R := fun σ' H' => σ' = [some v0, some (.str (toS d1)), some (.ref p1), some (.int x14.1), some u16, some (.int x30)] ∧ Chg ([] : List Addr) H0 H' ∧ (yLst (yObj C_Light nm_Light ty_Light)).rep K H' F0 v0 d0 ∧ (yLst (yTup (sCons yInt (sOne yInt)))).rep K H' [p1] (.ref p1) s32 ∧ (yObj C_Light nm_Light ty_Light).rep K H' [] u16 x14.2) (fun nx kx => ?_) (fun σ' H' hj => ?_)
        ·
          refine w_ifS ?_
          refine w_test ?_
          refine w_op ?_
          refine w_call ?_
          obtain ⟨x33, hx33, hs32⟩ := Mi.bnd hs32
          refine w_args (va_cons (val_var rfl) (va_cons (val_var rfl) (va_cons (val_lenTx hx33 (val_var rfl)) va_nil))) ?_
          obtain ⟨q34, hq34, hs32⟩ := Mi.bnd hs32
          refine ⟨u16, x14.2, x30, x33, q34, rfl, r17, hq34, fun H36 c35  => ?_⟩
          have r0 := Ty.ex r0 c35
          have r3 := Ty.ex r3 c35
          have r17 := Ty.fz r17 c35
          have c0 := c0.trans c35.none
          refine c_val (val_var rfl) ?_
          refine w_eqS ?_
          refine ⟨_, rfl, ?_⟩
          refine c_if (fun hb => ?_) (fun hb => ?_)
          ·
            replace hs32 := Mi.ifT hb hs32
            refine q_drop (w_bm (c_val (val_var rfl) ⟨tyv_lst r3, ?_⟩))
            refine w_cons ?_
            refine w_tup ?_
            refine w_args (va_cons (val_var rfl) (va_cons (val_var rfl) va_nil)) ?_
            refine e_tup (K := K) (ty := (sCons yInt (sOne yInt))) (F := []) (d := (x14.1, x30)) (by exact Nat.le_of_ble_eq_true rfl) ⟨_, _, _, _, rfl, rfl, yInt_i, ⟨_, rfl, yInt_i⟩⟩ fun p37 H41 np40 c38 r39 => ?_
            have r0 := Ty.ex r0 c38
            have r3 := Ty.ex r3 c38
            have r17 := Ty.fz r17 c38
            have c0 := c0.trans c38.none
            refine w_nil ?_
            obtain ⟨x42, hx42, hs32⟩ := Mi.bnd hs32
            refine m_app r3 r39 hx42 fun H44 c43 r3 => ?_
            have r0 := Ty.chg r0 c43 d6
            have r17 := Ty.fz r17 c43
            have c0 := c0.join c43 (fun a h => .inr (n7 a h))
            refine w_nextJ ?_
            obtain rfl := Option.some.inj hs32
            exact kx _ _ ⟨rfl, c0, r0, r3, r17⟩
          ·
            replace hs32 := Mi.ifF hb hs32
            refine w_nextJ ?_
            obtain rfl := Option.some.inj hs32
            exact kx _ _ ⟨rfl, c0, r0, r3, r17⟩
        obtain ⟨rfl, c0, r0, r3, r17⟩ := hj
        refine w_nextJ ?_
        obtain rfl := Option.some.inj hbe26
        exact ⟨_, (some (.int x30)), rfl, c0, r0, r3, r17, hle26⟩
      obtain ⟨s27, y28, rfl, c0, r0, r3, r17, hle26⟩ := hp
      obtain rfl := Mi.forN_end hle26
      refine w_nextJ ?_
      obtain rfl := Option.some.inj hbe8
      exact ⟨_, (some (.int x14.1)), (some u16), y28, rfl, c0, r0, r3, hle8⟩
    obtain ⟨s9, y10, y11, y12, rfl, c0, r0, r3, hle8⟩ := hp
    obtain rfl := Mi.forN_end hle8
    refine q_ret ?_
    refine c_val (val_var rfl) ?_
    obtain rfl := Option.some.inj hm
    exact hQ _ _ _ c0 r3 n7 
abbrev s_certain_light : Stmt := topS 13
abbrev N_certain_light : List Str := ["lights", "word", "found"]
theorem sc_certain_light : FnScope ["lights", "word", "found"] ["lights", "word"] (defScope s_certain_light) := ⟨rfl, rfl, rfl, by decide +kernel, rfl, by decide +kernel, by decide +kernel⟩
def sp_certain_light (K : PySem.W.Frag) (C_Light : Addr) : Sp := fun vs H Q _ => ∃ (v0 : V) (F0 : List Addr) (d0 : (List (Int × (List Nat) × Int))) (d1 : (List Nat)) (r : (Option Int)), vs = [v0, (.str (toS d1))] ∧ (yLst (yObj C_Light nm_Light ty_Light)).rep K H F0 v0 d0 ∧ Mi.m_certain_light d0 d1 = some r ∧ ∀ v H', Chg ([]) H H' → (yOpt yInt).rep K H' [] v r → Q v H'
theorem ok_certain_light (B : Bi mg) (CN : Cs mg) (D : Dfn K mg "certain_light" s_certain_light) {C_Light : Addr} (T_Light : Tx K mg C_Light "Light" nm_Light) (C_readings : Cal P w K mg "readings" ["lights", "word"] 2 (sp_readings K C_Light)) : Cal P w K mg "certain_light" ["lights", "word"] 3 (sp_certain_light K C_Light) := by
  obtain ⟨f, fd, F, g⟩ := D.ex
  refine ⟨f, fd, g, F.kp, bindsF F (fun _ _ _ _ _ _ us hl => match us, hl with | [_, _], _ => rfl), fun base => F.ok sc_certain_light (fun vs H Q E h => ?_) (fun cdv A outer s H0 vs Q E hr h => ?_)⟩
  · obtain ⟨v0, F0, d0, d1, r, rfl, r0, hm, hQ⟩ := h; rfl
  ·
    obtain ⟨v0, F0, d0, d1, r, rfl, r0, hm, hQ⟩ := h
    refine ⟨_, pss_cons (ps_set (i := 2) sc_certain_light.nd rfl (.inl rfl) (pe_cc C_readings hr (pa_cons (pv 0) (pa_cons (pv 1) pa_nil))))
      (pss_cons (ps_if (PW.pt (pw_or (pt_cmpR op_eq (pe_callB (cl_len (K := K)) (by rfl) B.len PySem.boot_len (pa_cons (pv 2) pa_nil)) pe_int (nomark _)) (pw_or1 (pt_cmpR op_ne (pe_ix (ix_t (K := K)) (pe_ix (ix_l (K := K)) (pv 2) pe_int (fun _ _ => rfl)) pe_int (fun _ _ => rfl)) (pe_ix (ix_t (K := K)) (pe_ix (ix_l (K := K)) (pv 2) (pe_un un_neg pe_int) (fun _ _ => rfl)) pe_int (fun _ _ => rfl)) (nomark _))))) (pss_cons (ps_ret pe_non) pss_nil) (pss_nil))
      (pss_cons (ps_ret (pe_ix (ix_t (K := K)) (pe_ix (ix_l (K := K)) (pv 2) pe_int (fun _ _ => rfl)) pe_int (fun _ _ => rfl))) pss_nil)), ?_⟩
    have c0 : Chg ([] : List Addr) H0 H0 := Chg.refl H0
    unfold Mi.m_certain_light at hm
    refine q_asg ?_
    refine w_call ?_
    refine w_args (va_cons (val_var rfl) (va_cons (val_var rfl) va_nil)) ?_
    obtain ⟨q1, hq1, hm⟩ := Mi.bnd hm
    refine ⟨v0, F0, d0, d1, q1, rfl, r0, hq1, fun v4 H3 F6 c2 r5 fr7  => ?_⟩
    have d8 : Dj F0 F6 := Ty.fresh r0 fr7
    have n9 : ∀ a ∈ F6, H0 a = none := fun a h => c0.dom a (fr7 a h)
    have r0 := Ty.ex r0 c2
    have c0 := c0.trans c2.none
    refine g_name (σ' := [some v0, some (.str (toS d1)), some v4]) rfl ?_
    obtain ⟨b31, hb31, hm⟩ := Mi.bnd hm
    refine q_if (ans_orO (ans_t (val_eqI (val_lenL r5 (val_var rfl)) val_c)) hb31 (fun hs10 => by (obtain ⟨x11, hx11, hs10⟩ := Mi.bnd hs10; obtain ⟨u12, r13, ku14⟩ := itm_L r5 hx11; obtain ⟨u15, F16, r17, su18, kx19, ku20⟩ := itm_tup (n := 0) at0 r13; obtain ⟨rfl, rfl⟩ := r17; obtain ⟨x21, hx21, hs10⟩ := Mi.bnd hs10; obtain ⟨u22, r23, ku24⟩ := itm_L r5 hx21; obtain ⟨u25, F26, r27, su28, kx29, ku30⟩ := itm_tup (n := 0) at0 r23; obtain ⟨rfl, rfl⟩ := r27; cases hs10; exact (ans_t (val_neI (ku20 (ku14 (val_var rfl) val_c) val_c) (ku30 (ku24 (val_var rfl) (val_neg val_c)) val_c)))))) (fun hb => ?_) (fun hb => ?_)
    ·
      replace hm := Mi.ifT hb hm
      refine q_ret ?_
      refine c_val val_c ?_
      obtain rfl := Option.some.inj hm
      exact hQ _ _ c0 (show _ ∧ _ from ⟨rfl, rfl⟩) 
    replace hm := Mi.ifF hb hm
    refine w_fall ?_
    refine q_ret ?_
    obtain ⟨x32, hx32, hm⟩ := Mi.bnd hm
    obtain ⟨u33, r34, ku35⟩ := itm_L r5 hx32
    obtain ⟨u36, F37, r38, su39, kx40, ku41⟩ := itm_tup (n := 0) at0 r34
    obtain ⟨rfl, rfl⟩ := r38
    refine c_val (ku41 (ku35 (val_var rfl) val_c) val_c) ?_
    obtain rfl := Option.some.inj hm
    exact hQ _ _ c0 (show _ ∧ _ from ⟨nn_int, yInt_i⟩) 
abbrev s_l_hand : Stmt := topS 15
abbrev N_l_hand : List Str := ["_law_script", "_law_k", "_law_cell", "_law_rest"]
theorem sc_l_hand : FnScope ["_law_script", "_law_k", "_law_cell", "_law_rest"] ["_law_script", "_law_k"] (defScope s_l_hand) := ⟨rfl, rfl, rfl, by decide +kernel, rfl, by decide +kernel, by decide +kernel⟩
def sp_l_hand (K : PySem.W.Frag) : Sp := fun vs H Q _ => ∃ (v0 : V) (d0 : (List Int)) (d1 : Int) (r : (List Int)), vs = [v0, (.int d1)] ∧ yScr.rep K H [] v0 d0 ∧ Mi.m_l_hand d0 d1 = some r ∧ ∀ v H' F, Chg ([]) H H' → (yLst yInt).rep K H' F v r → (∀ a ∈ F, H a = none) → Q v H'
theorem ok_l_hand (B : Bi mg) (CN : Cs mg) (D : Dfn K mg "_law_hand" s_l_hand)  : Cal P w K mg "_law_hand" ["_law_script", "_law_k"] 1 (sp_l_hand K) := by
  obtain ⟨f, fd, F, g⟩ := D.ex
  refine ⟨f, fd, g, F.kp, bindsF F (fun _ _ _ _ _ _ us hl => match us, hl with | [_, _], _ => rfl), fun base => F.ok sc_l_hand (fun vs H Q E h => ?_) (fun cdv A outer s H0 vs Q E hr h => ?_)⟩
  · obtain ⟨v0, d0, d1, r, rfl, r0, hm, hQ⟩ := h; rfl
  ·
    obtain ⟨v0, d0, d1, r, rfl, r0, hm, hQ⟩ := h
    refine ⟨_, pss_cons (ps_set (i := 2) sc_l_hand.nd rfl (.inl rfl) pe_int)
      (pss_cons (ps_if (pt_cmpR op_lt (pv 1) (pe_callB (cl_len (K := K)) (by rfl) B.len PySem.boot_len (pa_cons (pv 0) pa_nil)) (nomark _)) (pss_cons (ps_set (i := 2) sc_l_hand.nd rfl (.inl rfl) (pe_ix (ix_l (K := K)) (pv 0) (pv 1) (fun _ _ => rfl)))
      (pss_nil)) (pss_nil))
      (pss_cons (ps_if (pt_cmpR op_lt (pv 2) pe_int (nomark _)) (pss_cons (ps_set (i := 2) sc_l_hand.nd rfl (.inl rfl) (pe_op op_sub pe_int (pe_op op_mul pe_int (pv 2))))
      (pss_nil)) (pss_nil))
      (pss_cons (ps_set (i := 3) sc_l_hand.nd rfl (.inl rfl) pe_int)
      (pss_cons (ps_if (pt_cmpR op_ge (pv 2) (pe_op op_pow pe_int pe_int) (nomark _)) (pss_cons (ps_set (i := 3) sc_l_hand.nd rfl (.inl rfl) (pv 2))
      (pss_nil)) (pss_nil))
      (pss_cons (ps_ret (pe_lst (pa_cons (pv 3) (pa_cons (pe_op op_mod (pe_callTy cl_int (by rfl) B.int (by decide +kernel) (pa_cons (pe_op op_add (pe_op op_add (pv 2) (pe_op op_mul pe_int (pv 1))) pe_int) pa_nil)) pe_int) (pa_cons pe_int pa_nil))))) pss_nil))))), ?_⟩
    have c0 : Chg ([] : List Addr) H0 H0 := Chg.refl H0
    unfold Mi.m_l_hand at hm
    obtain ⟨cell1, hcell1, hm⟩ := Mi.letE hm
    refine q_setE val_c (congrArg V.int hcell1) (σ' := [some v0, some (.int d1), some (.int cell1), none]) rfl ?_
    obtain ⟨s2, hs2, hm⟩ := Mi.bnd hm
    refine s_join (R := fun σ' H' => σ' = [some v0, some (.int d1), some (.int s2), none] ∧ Chg ([] : List Addr) H0 H' ∧ yScr.rep K H' [] v0 d0) (fun nx kx => ?_) (fun σ' H' hj => ?_)
    ·
      refine s_if (ans_t (val_lt (val_var rfl) (val_lenS r0 (val_var rfl)))) (fun hb => ?_) (fun hb => ?_)
      ·
        replace hs2 := Mi.ifT hb hs2
        obtain ⟨x3, hx3, hs2⟩ := Mi.bnd hs2
        obtain ⟨cell4, hcell4, hs2⟩ := Mi.letE hs2
        refine q_setE (itm_S r0 hx3 (val_var rfl) (val_var rfl)) (congrArg V.int hcell4) (σ' := [some v0, some (.int d1), some (.int cell4), none]) rfl ?_
        refine w_nextJ ?_
        obtain rfl := Option.some.inj hs2
        exact kx _ _ ⟨rfl, c0, r0⟩
      ·
        replace hs2 := Mi.ifF hb hs2
        refine w_nextJ ?_
        obtain rfl := Option.some.inj hs2
        exact kx _ _ ⟨rfl, c0, r0⟩
    obtain ⟨rfl, c0, r0⟩ := hj
    obtain ⟨s5, hs5, hm⟩ := Mi.bnd hm
    refine s_join (R := fun σ' H' => σ' = [some v0, some (.int d1), some (.int s5), none] ∧ Chg ([] : List Addr) H0 H' ∧ yScr.rep K H' [] v0 d0) (fun nx kx => ?_) (fun σ' H' hj => ?_)
    ·
      refine s_if (ans_t (val_lt (val_var rfl) val_c)) (fun hb => ?_) (fun hb => ?_)
      ·
        replace hs5 := Mi.ifT hb hs5
        obtain ⟨cell6, hcell6, hs5⟩ := Mi.letE hs5
        refine q_setE (val_sub val_c (val_mulL val_c (val_var rfl) ⟨by decide, by decide⟩)) (congrArg V.int hcell6) (σ' := [some v0, some (.int d1), some (.int cell6), none]) rfl ?_
        refine w_nextJ ?_
        obtain rfl := Option.some.inj hs5
        exact kx _ _ ⟨rfl, c0, r0⟩
      ·
        replace hs5 := Mi.ifF hb hs5
        refine w_nextJ ?_
        obtain rfl := Option.some.inj hs5
        exact kx _ _ ⟨rfl, c0, r0⟩
    obtain ⟨rfl, c0, r0⟩ := hj
    obtain ⟨rest7, hrest7, hm⟩ := Mi.letE hm
    refine q_setE val_c (congrArg V.int hrest7) (σ' := [some v0, some (.int d1), some (.int s5), some (.int rest7)]) rfl ?_
    obtain ⟨s8, hs8, hm⟩ := Mi.bnd hm
    refine s_join (R := fun σ' H' => σ' = [some v0, some (.int d1), some (.int s5), some (.int s8)] ∧ Chg ([] : List Addr) H0 H' ∧ yScr.rep K H' [] v0 d0) (fun nx kx => ?_) (fun σ' H' hj => ?_)
    ·
      refine s_if (ans_t (val_ge (val_var rfl) (val_pow (n := 18) val_c val_c rfl (by decide) (by decide)))) (fun hb => ?_) (fun hb => ?_)
      ·
        replace hs8 := Mi.ifT hb hs8
        obtain ⟨rest9, hrest9, hs8⟩ := Mi.letE hs8
        refine q_setE (val_var rfl) (congrArg V.int hrest9) (σ' := [some v0, some (.int d1), some (.int s5), some (.int rest9)]) rfl ?_
        refine w_nextJ ?_
        obtain rfl := Option.some.inj hs8
        exact kx _ _ ⟨rfl, c0, r0⟩
      ·
        replace hs8 := Mi.ifF hb hs8
        refine w_nextJ ?_
        obtain rfl := Option.some.inj hs8
        exact kx _ _ ⟨rfl, c0, r0⟩
    obtain ⟨rfl, c0, r0⟩ := hj
    refine q_ret ?_
    refine w_lst ?_
    refine w_args (va_cons (val_var rfl) (va_cons (val_modc (val_int (val_add (val_add (val_var rfl) (val_mulL val_c (val_var rfl) ⟨by decide, by decide⟩)) val_c)) val_c (by decide)) (va_cons val_c va_nil))) ?_
    refine e_lst (K := K) (τ := yInt) (by exact Nat.le_of_ble_eq_true rfl) (.cons yInt_i (.cons yInt_i (.cons yInt_i .nil))) fun p10 H14 np13 c11 r12 => ?_
    have n15 : ∀ a ∈ [p10], H0 a = none := one_fresh (c0.dom p10 np13)
    have r0 := Ty.fz r0 c11
    have c0 := c0.trans c11.none
    obtain rfl := Option.some.inj hm
    exact hQ _ _ _ c0 r12 n15 
abbrev s_l_pick : Stmt := topS 16
abbrev N_l_pick : List Str := ["_law_hand_here", "_law_size", "_law_digit", "_law_mixed"]
theorem sc_l_pick : FnScope ["_law_hand_here", "_law_size", "_law_digit", "_law_mixed"] ["_law_hand_here", "_law_size"] (defScope s_l_pick) := ⟨rfl, rfl, rfl, by decide +kernel, rfl, by decide +kernel, by decide +kernel⟩
def sp_l_pick (K : PySem.W.Frag) : Sp := fun vs H Q _ => ∃ (v0 : V) (F0 : List Addr) (d0 : (List Int)) (d1 : Int) (r : (Int × (List Int))), vs = [v0, (.int d1)] ∧ (yLst yInt).rep K H F0 v0 d0 ∧ Mi.m_l_pick d0 d1 = some r ∧ ∀ H', Chg (F0) H H' → (yLst yInt).rep K H' F0 v0 r.2 → Q (.int r.1) H'
theorem ok_l_pick (B : Bi mg) (CN : Cs mg) (D : Dfn K mg "_law_pick" s_l_pick)  : Cal P w K mg "_law_pick" ["_law_hand_here", "_law_size"] 1 (sp_l_pick K) := by
  obtain ⟨f, fd, F, g⟩ := D.ex
  refine ⟨f, fd, g, F.kp, bindsF F (fun _ _ _ _ _ _ us hl => match us, hl with | [_, _], _ => rfl), fun base => F.ok sc_l_pick (fun vs H Q E h => ?_) (fun cdv A outer s H0 vs Q E hr h => ?_)⟩
  · obtain ⟨v0, F0, d0, d1, r, rfl, r0, hm, hQ⟩ := h; rfl
  ·
    obtain ⟨v0, F0, d0, d1, r, rfl, r0, hm, hQ⟩ := h
    refine ⟨_, pss_cons (ps_if (pt_cmpR op_lt (pv 1) pe_int (nomark _)) (pss_cons (ps_ret pe_int) pss_nil) (pss_nil))
      (pss_cons (ps_if (pt_cmpR op_gt (pe_ix (ix_l (K := K)) (pv 0) pe_int (fun _ _ => rfl)) pe_int (nomark _)) (pss_cons (ps_set (i := 2) sc_l_pick.nd rfl (.inl rfl) (pe_op op_mod (pe_callTy cl_int (by rfl) B.int (by decide +kernel) (pa_cons (pe_ix (ix_l (K := K)) (pv 0) pe_int (fun _ _ => rfl)) pa_nil)) (pv 1)))
      (pss_cons (ps_asg (pe_op op_fdivW (pe_ix (ix_l (K := K)) (pv 0) pe_int (fun _ _ => rfl)) (pv 1)) (pg_sub (pv 0) pe_int set_list))
      (pss_cons (ps_ret (pv 2)) pss_nil))) (pss_nil))
      (pss_cons (ps_asg (pe_op op_add (pe_ix (ix_l (K := K)) (pv 0) pe_int (fun _ _ => rfl)) pe_int) (pg_sub (pv 0) pe_int set_list))
      (pss_cons (ps_set (i := 3) sc_l_pick.nd rfl (.inl rfl) (pe_op op_mod (pe_callTy cl_int (by rfl) B.int (by decide +kernel) (pa_cons (pe_op op_add (pe_op op_add (pe_ix (ix_l (K := K)) (pv 0) pe_int (fun _ _ => rfl)) (pe_op op_mul pe_int (pe_ix (ix_l (K := K)) (pv 0) pe_int (fun _ _ => rfl)))) pe_int) pa_nil)) pe_int))
      (pss_cons (ps_set (i := 3) sc_l_pick.nd rfl (.inl rfl) (pe_op op_mod (pe_callTy cl_int (by rfl) B.int (by decide +kernel) (pa_cons (pe_op op_mul (pv 3) (pe_op op_add (pv 3) pe_int)) pa_nil)) pe_int))
      (pss_cons (ps_set (i := 3) sc_l_pick.nd rfl (.inl rfl) (pe_op op_mod (pe_callTy cl_int (by rfl) B.int (by decide +kernel) (pa_cons (pe_op op_add (pe_op op_mul (pv 3) (pe_op op_add (pv 3) pe_int)) (pe_op op_mul pe_int (pe_ix (ix_l (K := K)) (pv 0) pe_int (fun _ _ => rfl)))) pa_nil)) pe_int))
      (pss_cons (ps_ret (pe_op op_mod (pe_callTy cl_int (by rfl) B.int (by decide +kernel) (pa_cons (pe_op op_fdiv (pv 3) pe_int) pa_nil)) (pv 1))) pss_nil)))))), ?_⟩
    have c0 : Chg (F0) H0 H0 := Chg.refl H0
    unfold Mi.m_l_pick at hm
    refine q_if (ans_t (val_lt (val_var rfl) val_c)) (fun hb => ?_) (fun hb => ?_)
    ·
      replace hm := Mi.ifT hb hm
      refine q_ret ?_
      refine c_val val_c ?_
      obtain rfl := Option.some.inj hm
      exact hQ _ c0 r0
    replace hm := Mi.ifF hb hm
    refine w_fall ?_
    obtain ⟨x1, hx1, hm⟩ := Mi.bnd hm
    refine q_if (ans_t (val_gt (itm_LI r0 hx1 (val_var rfl) val_c) val_c)) (fun hb => ?_) (fun hb => ?_)
    ·
      replace hm := Mi.ifT hb hm
      obtain ⟨x2, hx2, hm⟩ := Mi.bnd hm
      obtain ⟨x3, hx3, hm⟩ := Mi.bnd hm
      obtain ⟨digit4, hdigit4, hm⟩ := Mi.letE hm
      refine q_setE (val_mod (val_int (itm_LI r0 hx2 (val_var rfl) val_c)) (val_var rfl) hx3) (congrArg V.int hdigit4) (σ' := [some v0, some (.int d1), some (.int digit4), none]) rfl ?_
      refine q_asg ?_
      obtain ⟨x5, hx5, hm⟩ := Mi.bnd hm
      obtain ⟨x6, hx6, hm⟩ := Mi.bnd hm
      refine c_val (val_fdiv (itm_LI r0 hx5 (val_var rfl) val_c) (val_var rfl) hx6) ?_
      refine w_gsub ?_
      refine c_val (val_var rfl) ?_
      refine c_val val_c ?_
      obtain ⟨x7, hx7, hm⟩ := Mi.bnd hm
      refine m_set r0 yInt_i hx7 fun H9 c8 r0 => ?_
      have c0 := c0.join c8 (fun a h => .inl (h))
      refine q_ret ?_
      refine c_val (val_var rfl) ?_
      obtain rfl := Option.some.inj hm
      exact hQ _ c0 r0
    replace hm := Mi.ifF hb hm
    refine w_fall ?_
    refine q_asg ?_
    obtain ⟨x10, hx10, hm⟩ := Mi.bnd hm
    refine c_val (val_add (itm_LI r0 hx10 (val_var rfl) val_c) val_c) ?_
    refine w_gsub ?_
    refine c_val (val_var rfl) ?_
    refine c_val val_c ?_
    obtain ⟨x11, hx11, hm⟩ := Mi.bnd hm
    refine m_set r0 yInt_i hx11 fun H13 c12 r0 => ?_
    have c0 := c0.join c12 (fun a h => .inl (h))
    obtain ⟨x14, hx14, hm⟩ := Mi.bnd hm
    obtain ⟨x15, hx15, hm⟩ := Mi.bnd hm
    obtain ⟨mixed16, hmixed16, hm⟩ := Mi.letE hm
    refine q_setE (val_modc (val_int (val_add (val_add (itm_LI r0 hx14 (val_var rfl) val_c) (val_mulL val_c (itm_LI r0 hx15 (val_var rfl) val_c) ⟨by decide, by decide⟩)) val_c)) val_c (by decide)) (congrArg V.int hmixed16) (σ' := [some v0, some (.int d1), none, some (.int mixed16)]) rfl ?_
    obtain ⟨x17, hx17, hm⟩ := Mi.bnd hm
    obtain ⟨mixed18, hmixed18, hm⟩ := Mi.letE hm
    refine q_setE (val_modc (val_int (val_mul (val_var rfl) (val_add (val_var rfl) val_c) hx17)) val_c (by decide)) (congrArg V.int hmixed18) (σ' := [some v0, some (.int d1), none, some (.int mixed18)]) rfl ?_
    obtain ⟨x19, hx19, hm⟩ := Mi.bnd hm
    obtain ⟨x20, hx20, hm⟩ := Mi.bnd hm
    obtain ⟨mixed21, hmixed21, hm⟩ := Mi.letE hm
    refine q_setE (val_modc (val_int (val_add (val_mul (val_var rfl) (val_add (val_var rfl) val_c) hx19) (val_mulL val_c (itm_LI r0 hx20 (val_var rfl) val_c) ⟨by decide, by decide⟩))) val_c (by decide)) (congrArg V.int hmixed21) (σ' := [some v0, some (.int d1), none, some (.int mixed21)]) rfl ?_
    refine q_ret ?_
    obtain ⟨x22, hx22, hm⟩ := Mi.bnd hm
    refine c_val (val_mod (val_int (val_divc (val_var rfl) val_c ⟨by decide, by decide⟩)) (val_var rfl) hx22) ?_
    obtain rfl := Option.some.inj hm
    exact hQ _ c0 r0
abbrev s_l_int : Stmt := topS 17
abbrev N_l_int : List Str := ["_law_x"]
theorem sc_l_int : FnScope ["_law_x"] ["_law_x"] (defScope s_l_int) := ⟨rfl, rfl, rfl, by decide +kernel, rfl, by decide +kernel, by decide +kernel⟩
def sp_l_int (K : PySem.W.Frag) : Sp := fun vs H Q _ => (∃ (d0 : Int) (r : Bool), vs = [(.int d0)] ∧ Mi.m_l_int_0 d0 = some r ∧ ∀ H', Chg ([]) H H' → Q (.bl r) H') ∨ (∃ (v0 : V) (d0 : (Option Int)) (r : Bool), vs = [v0] ∧ (yOpt yInt).rep K H [] v0 d0 ∧ Mi.m_l_int_1 d0 = some r ∧ ∀ H', Chg ([]) H H' → Q (.bl r) H')
theorem ok_l_int (B : Bi mg) (CN : Cs mg) (D : Dfn K mg "_law_int" s_l_int)  : Cal P w K mg "_law_int" ["_law_x"] 1 (sp_l_int K) := by
  obtain ⟨f, fd, F, g⟩ := D.ex
  refine ⟨f, fd, g, F.kp, bindsF F (fun _ _ _ _ _ _ us hl => match us, hl with | [_], _ => rfl), fun base => F.ok sc_l_int (fun vs H Q E h => ?_) (fun cdv A outer s H0 vs Q E hr h => ?_)⟩
  · rcases h with ⟨d0, r, rfl, hm, hQ⟩ | ⟨v0, d0, r, rfl, r0, hm, hQ⟩
    all_goals rfl
  · rcases h with h | h
    ·
      obtain ⟨d0, r, rfl, hm, hQ⟩ := h
      refine ⟨_, pss_cons (ps_ret (pe_and (pe_callB (cl_isi (K := K)) (by rfl) B.isinstance (by decide +kernel) (pa_cons (pv 0) (pa_cons (pe_bltn (v := .ty "int") (by rfl) B.int (by decide +kernel) rfl) pa_nil))) (pe_one (pe_not (pe_callB (cl_isi (K := K)) (by rfl) B.isinstance (by decide +kernel) (pa_cons (pv 0) (pa_cons (pe_bltn (v := .ty "bool") (by rfl) B.bool (by decide +kernel) rfl) pa_nil))))))) pss_nil, ?_⟩
      have c0 : Chg ([] : List Addr) H0 H0 := Chg.refl H0
      unfold Mi.m_l_int_0 at hm
      refine q_ret ?_
      refine c_val (val_andV (val_isi (val_var rfl) ty_int (n := "int") (m := "int") (b := true) (by decide +kernel)) (fun _ => (val_notV (val_isi (val_var rfl) ty_int (n := "int") (m := "bool") (b := false) (by decide +kernel))))) ?_
      obtain rfl := Option.some.inj hm
      exact hQ _ c0 
    ·
      obtain ⟨v0, d0, r, rfl, r0, hm, hQ⟩ := h
      refine ⟨_, pss_cons (ps_ret (pe_and (pe_callB (cl_isi (K := K)) (by rfl) B.isinstance (by decide +kernel) (pa_cons (pv 0) (pa_cons (pe_bltn (v := .ty "int") (by rfl) B.int (by decide +kernel) rfl) pa_nil))) (pe_one (pe_not (pe_callB (cl_isi (K := K)) (by rfl) B.isinstance (by decide +kernel) (pa_cons (pv 0) (pa_cons (pe_bltn (v := .ty "bool") (by rfl) B.bool (by decide +kernel) rfl) pa_nil))))))) pss_nil, ?_⟩
      have c0 : Chg ([] : List Addr) H0 H0 := Chg.refl H0
      unfold Mi.m_l_int_1 at hm
      refine q_ret ?_
      refine c_val (val_andV (val_isiO (n := "int") (m := "int") (b := true) tyr_int r0 (val_var rfl) (by decide +kernel) (by decide +kernel)) (fun _ => (val_notV (val_isiO (n := "int") (m := "bool") (b := false) tyr_int r0 (val_var rfl) (by decide +kernel) (by decide +kernel))))) ?_
      obtain rfl := Option.some.inj hm
      exact hQ _ c0 
abbrev s_l_pattern : Stmt := topS 18
abbrev N_l_pattern : List Str := ["_law_hand_here", "_law_size", "_law_bits", "_law_k"]
theorem sc_l_pattern : FnScope ["_law_hand_here", "_law_size", "_law_bits", "_law_k"] ["_law_hand_here"] (defScope s_l_pattern) := ⟨rfl, rfl, rfl, by decide +kernel, rfl, by decide +kernel, by decide +kernel⟩
def sp_l_pattern (K : PySem.W.Frag) : Sp := fun vs H Q _ => ∃ (v0 : V) (F0 : List Addr) (d0 : (List Int)) (r : ((List Nat) × (List Int))), vs = [v0] ∧ (yLst yInt).rep K H F0 v0 d0 ∧ Mi.m_l_pattern d0 = some r ∧ ∀ H', Chg (F0) H H' → (yLst yInt).rep K H' F0 v0 r.2 → Q (.str (toS r.1)) H'
theorem ok_l_pattern (B : Bi mg) (CN : Cs mg) (D : Dfn K mg "_law_pattern" s_l_pattern) (C_l_pick : Cal P w K mg "_law_pick" ["_law_hand_here", "_law_size"] 1 (sp_l_pick K)) : Cal P w K mg "_law_pattern" ["_law_hand_here"] 2 (sp_l_pattern K) := by
  obtain ⟨f, fd, F, g⟩ := D.ex
  refine ⟨f, fd, g, F.kp, bindsF F (fun _ _ _ _ _ _ us hl => match us, hl with | [_], _ => rfl), fun base => F.ok sc_l_pattern (fun vs H Q E h => ?_) (fun cdv A outer s H0 vs Q E hr h => ?_)⟩
  · obtain ⟨v0, F0, d0, r, rfl, r0, hm, hQ⟩ := h; rfl
  ·
    obtain ⟨v0, F0, d0, r, rfl, r0, hm, hQ⟩ := h
    refine ⟨_, pss_cons (ps_set (i := 1) sc_l_pattern.nd rfl (.inl rfl) (pe_op op_add pe_int (pe_cc C_l_pick hr (pa_cons (pv 0) (pa_cons pe_int pa_nil)))))
      (pss_cons (ps_set (i := 2) sc_l_pattern.nd rfl (.inr rfl) (pe_cc C_l_pick hr (pa_cons (pv 0) (pa_cons pe_int pa_nil))))
      (pss_cons (ps_ret (pe_joinQ (K := K) pe_str (pe_lc (own := [("_law_k", 3)]) rfl sc_l_pattern.nd (pi_range1 (by rfl) B.range (pa_cons (pv 1) pa_nil)) (blkOk_by (own := [("_law_k", 3)]) (N := N_l_pattern) (sc := defScope s_l_pattern) (by decide +kernel)) (fun _ _ _ _ _ => (pg_name (i := 3) sc_l_pattern.nd rfl (.inl rfl))) (fun _ _ _ _ _ => pts_nil) (fun _ _ _ _ _ => (pe_ix ix_str pe_str (pe_op op_mod (pe_callTy cl_int (by rfl) B.int (by decide +kernel) (pa_cons (pe_op op_shr (pv 2) (pv 3)) pa_nil)) pe_int) (fun _ _ => rfl)))))) pss_nil)), ?_⟩
    have c0 : Chg (F0) H0 H0 := Chg.refl H0
    unfold Mi.m_l_pattern at hm
    refine q_asg ?_
    refine w_op ?_
    refine c_val val_c ?_
    refine w_call ?_
    refine w_args (va_cons (val_var rfl) (va_cons val_c va_nil)) ?_
    obtain ⟨q1, hq1, hm⟩ := Mi.bnd hm
    refine ⟨v0, F0, d0, (12 : Int), q1, rfl, r0, hq1, fun H3 c2 r0 => ?_⟩
    have c0 := c0.join c2 (fun a h => .inl (h))
    refine w_I0 ?_
    obtain ⟨size4, hsize4, hm⟩ := Mi.letE hm
    refine g_nameE (congrArg V.int hsize4) (σ' := [some v0, some (.int size4), none, none]) rfl ?_
    refine q_asg ?_
    refine w_call ?_
    refine w_args (va_cons (val_var rfl) (va_cons val_c va_nil)) ?_
    obtain ⟨q5, hq5, hm⟩ := Mi.bnd hm
    refine ⟨v0, F0, q1.2, (4096 : Int), q5, rfl, r0, hq5, fun H7 c6 r0 => ?_⟩
    have c0 := c0.join c6 (fun a h => .inl (h))
    refine g_name (σ' := [some v0, some (.int size4), some (.int q5.1), none]) rfl ?_
    refine q_ret ?_
    refine w_m1 ?_
    refine c_val (val_cS (a := ([] : List Nat)) (by decide +kernel)) ?_
    refine ⟨⟨_, rfl⟩, ?_⟩
    refine w_lc ?_
    refine w_iRng1 ?_
    refine w_args (va_cons (val_var rfl) va_nil) ?_
    obtain ⟨g8, hg8, hm⟩ := Mi.bnd hm
    obtain ⟨e9, he9, hm⟩ := Mi.bnd hm
    refine kc_rng1 (K := K) (τ := yStr) hg8 (fun D11 i H' => ∃ (s10 : (List (List Nat))), Chg (F0) H0 H' ∧ (yLst yInt).rep K H' F0 v0 q5.2 ∧ (yLst yStr).rep K H' [D11] (.ref D11) s10 ∧ Dj F0 [D11] ∧ (∀ a ∈ [D11], H0 a = none) ∧ Mi.forN (Mi.m_l_pattern_b1 q5) s10 (List.drop i g8) = some e9) (fun D11 H17 np16 c15 r12 => ⟨([] : (List (List Nat))), c0.trans c15.none, (Ty.ex r0 c15), r12, Ty.nin r0 np16, one_fresh (c0.dom D11 np16), he9⟩) (fun D11 i20 x19 H21 hx18 hp => ?_) (fun D11 H' np16 hp => ?_)
    ·
      obtain ⟨s10, c0, r0, r12, d13, n14, hle9⟩ := hp
      obtain ⟨_, hbe9, hle9⟩ := Mi.forN_go hle9 hx18
      unfold Mi.m_l_pattern_b1 at hbe9
      refine g_name (σ' := [some v0, some (.int size4), some (.int q5.1), some (.int x19)]) rfl ?_
      refine ⟨rfl, ?_⟩
      refine w_yes ?_
      refine iteT ?_
      obtain ⟨x26, hx26, hbe9⟩ := Mi.bnd hbe9
      obtain ⟨x27, hx27, hbe9⟩ := Mi.bnd hbe9
      refine c_val (val_ixS hx27 (val_cS (a := ([42, 46] : List Nat)) (by decide +kernel)) (val_modc (val_int (val_shrO (val_var rfl) (val_var rfl) hx26)) val_c (by decide))) ?_
      obtain ⟨x28, hx28, hbe9⟩ := Mi.bnd hbe9
      refine e_app r12 yStr_i hx28 fun H30 c29 r12 => ?_
      have r0 := Ty.chg r0 c29 d13
      have c0 := c0.join c29 (fun a h => .inr (n14 a h))
      obtain rfl := Option.some.inj hbe9
      exact ⟨_, c0, r0, r12, d13, n14, hle9⟩
    obtain ⟨s10, c0, r0, r12, d13, n14, hle9⟩ := hp
    obtain rfl := Mi.forN_end hle9
    obtain ⟨x31, hx31, hm⟩ := Mi.bnd hm
    refine w_joinL r12 hx31 ?_
    obtain rfl := Option.some.inj hm
    exact hQ _ c0 r0
abbrev s_l_shown : Stmt := topS 19
abbrev N_l_shown : List Str := ["_law_pattern_here", "_law_hour", "_law_count", "_law_k"]
theorem sc_l_shown : FnScope ["_law_pattern_here", "_law_hour", "_law_count", "_law_k"] ["_law_pattern_here", "_law_hour", "_law_count"] (defScope s_l_shown) := ⟨rfl, rfl, rfl, by decide +kernel, rfl, by decide +kernel, by decide +kernel⟩
def sp_l_shown (K : PySem.W.Frag) : Sp := fun vs H Q _ => ∃ (d0 : (List Nat)) (d1 : Int) (d2 : Int) (r : (List Nat)), vs = [(.str (toS d0)), (.int d1), (.int d2)] ∧ Mi.m_l_shown d0 d1 d2 = some r ∧ ∀ H', Chg ([]) H H' → Q (.str (toS r)) H'
theorem ok_l_shown (B : Bi mg) (CN : Cs mg) (D : Dfn K mg "_law_shown" s_l_shown)  : Cal P w K mg "_law_shown" ["_law_pattern_here", "_law_hour", "_law_count"] 1 (sp_l_shown K) := by
  obtain ⟨f, fd, F, g⟩ := D.ex
  refine ⟨f, fd, g, F.kp, bindsF F (fun _ _ _ _ _ _ us hl => match us, hl with | [_, _, _], _ => rfl), fun base => F.ok sc_l_shown (fun vs H Q E h => ?_) (fun cdv A outer s H0 vs Q E hr h => ?_)⟩
  · obtain ⟨d0, d1, d2, r, rfl, hm, hQ⟩ := h; rfl
  ·
    obtain ⟨d0, d1, d2, r, rfl, hm, hQ⟩ := h
    refine ⟨_, pss_cons (ps_ret (pe_joinQ (K := K) pe_str (pe_lc (own := [("_law_k", 3)]) rfl sc_l_shown.nd (pi_range1 (by rfl) B.range (pa_cons (pv 2) pa_nil)) (blkOk_by (own := [("_law_k", 3)]) (N := N_l_shown) (sc := defScope s_l_shown) (by decide +kernel)) (fun _ _ _ _ _ => (pg_name (i := 3) sc_l_shown.nd rfl (.inl rfl))) (fun _ _ _ _ _ => pts_nil) (fun _ _ _ _ _ => (pe_ix ix_str (pv 0) (pe_op op_mod (pe_callTy cl_int (by rfl) B.int (by decide +kernel) (pa_cons (pe_op op_add (pv 1) (pv 3)) pa_nil)) (pe_callB cl_lenTx (by rfl) B.len PySem.boot_len (pa_cons (pv 0) pa_nil))) (fun _ _ => rfl)))))) pss_nil, ?_⟩
    have c0 : Chg ([] : List Addr) H0 H0 := Chg.refl H0
    unfold Mi.m_l_shown at hm
    refine q_ret ?_
    refine w_m1 ?_
    refine c_val (val_cS (a := ([] : List Nat)) (by decide +kernel)) ?_
    refine ⟨⟨_, rfl⟩, ?_⟩
    refine w_lc ?_
    refine w_iRng1 ?_
    refine w_args (va_cons (val_var rfl) va_nil) ?_
    obtain ⟨g1, hg1, hm⟩ := Mi.bnd hm
    obtain ⟨e2, he2, hm⟩ := Mi.bnd hm
    refine kc_rng1 (K := K) (τ := yStr) hg1 (fun D4 i H' => ∃ (s3 : (List (List Nat))), Chg ([] : List Addr) H0 H' ∧ (yLst yStr).rep K H' [D4] (.ref D4) s3 ∧ (∀ a ∈ [D4], H0 a = none) ∧ Mi.forN (Mi.m_l_shown_b1 d0 d1) s3 (List.drop i g1) = some e2) (fun D4 H9 np8 c7 r5 => ⟨([] : (List (List Nat))), c0.trans c7.none, r5, one_fresh (c0.dom D4 np8), he2⟩) (fun D4 i12 x11 H13 hx10 hp => ?_) (fun D4 H' np8 hp => ?_)
    ·
      obtain ⟨s3, c0, r5, n6, hle2⟩ := hp
      obtain ⟨_, hbe2, hle2⟩ := Mi.forN_go hle2 hx10
      unfold Mi.m_l_shown_b1 at hbe2
      refine g_name (σ' := [some (.str (toS d0)), some (.int d1), some (.int d2), some (.int x11)]) rfl ?_
      refine ⟨rfl, ?_⟩
      refine w_yes ?_
      refine iteT ?_
      obtain ⟨x18, hx18, hbe2⟩ := Mi.bnd hbe2
      obtain ⟨x19, hx19, hbe2⟩ := Mi.bnd hbe2
      obtain ⟨x20, hx20, hbe2⟩ := Mi.bnd hbe2
      refine c_val (val_ixS hx20 (val_var rfl) (val_mod (val_int (val_add (val_var rfl) (val_var rfl))) (val_lenTx hx18 (val_var rfl)) hx19)) ?_
      obtain ⟨x21, hx21, hbe2⟩ := Mi.bnd hbe2
      refine e_app r5 yStr_i hx21 fun H23 c22 r5 => ?_
      have c0 := c0.join c22 (fun a h => .inr (n6 a h))
      obtain rfl := Option.some.inj hbe2
      exact ⟨_, c0, r5, n6, hle2⟩
    obtain ⟨s3, c0, r5, n6, hle2⟩ := hp
    obtain rfl := Mi.forN_end hle2
    obtain ⟨x24, hx24, hm⟩ := Mi.bnd hm
    refine w_joinL r5 hx24 ?_
    obtain rfl := Option.some.inj hm
    exact hQ _ c0 
abbrev s_l_changed : Stmt := topS 20
abbrev N_l_changed : List Str := ["_law_word_here", "_law_spot"]
theorem sc_l_changed : FnScope ["_law_word_here", "_law_spot"] ["_law_word_here", "_law_spot"] (defScope s_l_changed) := ⟨rfl, rfl, rfl, by decide +kernel, rfl, by decide +kernel, by decide +kernel⟩
def sp_l_changed (K : PySem.W.Frag) : Sp := fun vs H Q _ => ∃ (d0 : (List Nat)) (d1 : Int) (r : (List Nat)), vs = [(.str (toS d0)), (.int d1)] ∧ Mi.m_l_changed d0 d1 = some r ∧ ∀ H', Chg ([]) H H' → Q (.str (toS r)) H'
theorem ok_l_changed (B : Bi mg) (CN : Cs mg) (D : Dfn K mg "_law_changed" s_l_changed)  : Cal P w K mg "_law_changed" ["_law_word_here", "_law_spot"] 1 (sp_l_changed K) := by
  obtain ⟨f, fd, F, g⟩ := D.ex
  refine ⟨f, fd, g, F.kp, bindsF F (fun _ _ _ _ _ _ us hl => match us, hl with | [_, _], _ => rfl), fun base => F.ok sc_l_changed (fun vs H Q E h => ?_) (fun cdv A outer s H0 vs Q E hr h => ?_)⟩
  · obtain ⟨d0, d1, r, rfl, hm, hQ⟩ := h; rfl
  ·
    obtain ⟨d0, d1, r, rfl, hm, hQ⟩ := h
    refine ⟨_, pss_cons (ps_ret (pe_op op_catS (pe_op op_catS (pe_slice sl_str (pv 0) po_none (po_some (pv 1))) (pe_ix ix_str pe_str (pe_callTy cl_int (by rfl) B.int (by decide +kernel) (pa_cons (pe_cmpR op_eq (pe_ix ix_str (pv 0) (pv 1) (fun _ _ => rfl)) pe_str (nomark _)) pa_nil)) (fun _ _ => rfl))) (pe_slice sl_str (pv 0) (po_some (pe_op op_add (pv 1) pe_int)) po_none))) pss_nil, ?_⟩
    have c0 : Chg ([] : List Addr) H0 H0 := Chg.refl H0
    unfold Mi.m_l_changed at hm
    refine q_ret ?_
    refine w_op ?_
    refine w_op ?_
    refine w_sl ?_
    refine c_val (val_var rfl) ?_
    refine w_pon ?_
    refine w_pos ?_
    refine c_val (val_var rfl) ?_
    refine ⟨_, rfl, ?_⟩
    obtain ⟨x1, hx1, hm⟩ := Mi.bnd hm
    refine w_cutS hx1 ?_
    obtain ⟨x2, hx2, hm⟩ := Mi.bnd hm
    obtain ⟨x3, hx3, hm⟩ := Mi.bnd hm
    refine c_val (val_ixS hx3 (val_cS (a := ([42, 46] : List Nat)) (by decide +kernel)) (val_intB (val_eqS (val_ixS hx2 (val_var rfl) (val_var rfl)) (val_cS (a := ([42] : List Nat)) (by decide +kernel))))) ?_
    obtain ⟨x4, hx4, hm⟩ := Mi.bnd hm
    refine w_catS hx4 ?_
    refine w_sl ?_
    refine c_val (val_var rfl) ?_
    refine w_pos ?_
    refine c_val (val_add (val_var rfl) val_c) ?_
    refine ⟨_, rfl, ?_⟩
    refine w_pon ?_
    obtain ⟨x5, hx5, hm⟩ := Mi.bnd hm
    refine w_cutS hx5 ?_
    obtain ⟨x6, hx6, hm⟩ := Mi.bnd hm
    refine w_catS hx6 ?_
    obtain rfl := Option.some.inj hm
    exact hQ _ c0 
abbrev s_l_kin : Stmt := topS 21
abbrev N_l_kin : List Str := ["_law_hand_here", "_law_pattern_here", "_law_kind", "_law_spot"]
theorem sc_l_kin : FnScope ["_law_hand_here", "_law_pattern_here", "_law_kind", "_law_spot"] ["_law_hand_here", "_law_pattern_here"] (defScope s_l_kin) := ⟨rfl, rfl, rfl, by decide +kernel, rfl, by decide +kernel, by decide +kernel⟩
def sp_l_kin (K : PySem.W.Frag) : Sp := fun vs H Q _ => ∃ (v0 : V) (F0 : List Addr) (d0 : (List Int)) (d1 : (List Nat)) (r : ((List Nat) × (List Int))), vs = [v0, (.str (toS d1))] ∧ (yLst yInt).rep K H F0 v0 d0 ∧ Mi.m_l_kin d0 d1 = some r ∧ ∀ H', Chg (F0) H H' → (yLst yInt).rep K H' F0 v0 r.2 → Q (.str (toS r.1)) H'
theorem ok_l_kin (B : Bi mg) (CN : Cs mg) (D : Dfn K mg "_law_kin" s_l_kin) (C_l_pick : Cal P w K mg "_law_pick" ["_law_hand_here", "_law_size"] 1 (sp_l_pick K)) (C_l_changed : Cal P w K mg "_law_changed" ["_law_word_here", "_law_spot"] 1 (sp_l_changed K)) : Cal P w K mg "_law_kin" ["_law_hand_here", "_law_pattern_here"] 2 (sp_l_kin K) := by
  obtain ⟨f, fd, F, g⟩ := D.ex
  refine ⟨f, fd, g, F.kp, bindsF F (fun _ _ _ _ _ _ us hl => match us, hl with | [_, _], _ => rfl), fun base => F.ok sc_l_kin (fun vs H Q E h => ?_) (fun cdv A outer s H0 vs Q E hr h => ?_)⟩
  · obtain ⟨v0, F0, d0, d1, r, rfl, r0, hm, hQ⟩ := h; rfl
  ·
    obtain ⟨v0, F0, d0, d1, r, rfl, r0, hm, hQ⟩ := h
    refine ⟨_, pss_cons (ps_set (i := 2) sc_l_kin.nd rfl (.inl rfl) (pe_cc C_l_pick hr (pa_cons (pv 0) (pa_cons pe_int pa_nil))))
      (pss_cons (ps_set (i := 3) sc_l_kin.nd rfl (.inl rfl) (pe_cc C_l_pick hr (pa_cons (pv 0) (pa_cons (pe_callB cl_lenTx (by rfl) B.len PySem.boot_len (pa_cons (pv 1) pa_nil)) pa_nil))))
      (pss_cons (ps_if (pt_cmpR op_eq (pv 2) pe_int (nomark _)) (pss_cons (ps_ret (pv 1)) pss_nil) (pss_nil))
      (pss_cons (ps_if (pt_cmpR op_eq (pv 2) pe_int (nomark _)) (pss_cons (ps_ret (pe_op op_catS (pe_slice sl_str (pv 1) (po_some (pv 3)) po_none) (pe_slice sl_str (pv 1) po_none (po_some (pv 3))))) pss_nil) (pss_nil))
      (pss_cons (ps_if (PW.pt (pw_and (pt_cmpR op_eq (pv 2) pe_int (nomark _)) (pw_and1 (pt_cmpR op_lt (pe_callB cl_lenTx (by rfl) B.len PySem.boot_len (pa_cons (pv 1) pa_nil)) pe_int (nomark _))))) (pss_cons (ps_ret (pe_op op_catS (pv 1) (pv 1))) pss_nil) (pss_nil))
      (pss_cons (ps_ret (pe_cc C_l_changed hr (pa_cons (pv 1) (pa_cons (pv 3) pa_nil)))) pss_nil))))), ?_⟩
    have c0 : Chg (F0) H0 H0 := Chg.refl H0
    unfold Mi.m_l_kin at hm
    refine q_asg ?_
    refine w_call ?_
    refine w_args (va_cons (val_var rfl) (va_cons val_c va_nil)) ?_
    obtain ⟨q1, hq1, hm⟩ := Mi.bnd hm
    refine ⟨v0, F0, d0, (4 : Int), q1, rfl, r0, hq1, fun H3 c2 r0 => ?_⟩
    have c0 := c0.join c2 (fun a h => .inl (h))
    refine g_name (σ' := [some v0, some (.str (toS d1)), some (.int q1.1), none]) rfl ?_
    refine q_asg ?_
    refine w_call ?_
    obtain ⟨x4, hx4, hm⟩ := Mi.bnd hm
    refine w_args (va_cons (val_var rfl) (va_cons (val_lenTx hx4 (val_var rfl)) va_nil)) ?_
    obtain ⟨q5, hq5, hm⟩ := Mi.bnd hm
    refine ⟨v0, F0, q1.2, x4, q5, rfl, r0, hq5, fun H7 c6 r0 => ?_⟩
    have c0 := c0.join c6 (fun a h => .inl (h))
    refine g_name (σ' := [some v0, some (.str (toS d1)), some (.int q1.1), some (.int q5.1)]) rfl ?_
    refine q_if (ans_t (val_eqI (val_var rfl) val_c)) (fun hb => ?_) (fun hb => ?_)
    ·
      replace hm := Mi.ifT hb hm
      refine q_ret ?_
      refine c_val (val_var rfl) ?_
      obtain rfl := Option.some.inj hm
      exact hQ _ c0 r0
    replace hm := Mi.ifF hb hm
    refine w_fall ?_
    refine q_if (ans_t (val_eqI (val_var rfl) val_c)) (fun hb => ?_) (fun hb => ?_)
    ·
      replace hm := Mi.ifT hb hm
      refine q_ret ?_
      refine w_op ?_
      refine w_sl ?_
      refine c_val (val_var rfl) ?_
      refine w_pos ?_
      refine c_val (val_var rfl) ?_
      refine ⟨_, rfl, ?_⟩
      refine w_pon ?_
      obtain ⟨x8, hx8, hm⟩ := Mi.bnd hm
      refine w_cutS hx8 ?_
      refine w_sl ?_
      refine c_val (val_var rfl) ?_
      refine w_pon ?_
      refine w_pos ?_
      refine c_val (val_var rfl) ?_
      refine ⟨_, rfl, ?_⟩
      obtain ⟨x9, hx9, hm⟩ := Mi.bnd hm
      refine w_cutS hx9 ?_
      obtain ⟨x10, hx10, hm⟩ := Mi.bnd hm
      refine w_catS hx10 ?_
      obtain rfl := Option.some.inj hm
      exact hQ _ c0 r0
    replace hm := Mi.ifF hb hm
    refine w_fall ?_
    obtain ⟨b13, hb13, hm⟩ := Mi.bnd hm
    refine q_if (ans_andO (ans_t (val_eqI (val_var rfl) val_c)) hb13 (fun hs11 => by (obtain ⟨x12, hx12, hs11⟩ := Mi.bnd hs11; cases hs11; exact (ans_t (val_lt (val_lenTx hx12 (val_var rfl)) val_c))))) (fun hb => ?_) (fun hb => ?_)
    ·
      replace hm := Mi.ifT hb hm
      refine q_ret ?_
      obtain ⟨x14, hx14, hm⟩ := Mi.bnd hm
      refine c_val (val_catS hx14 (val_var rfl) (val_var rfl)) ?_
      obtain rfl := Option.some.inj hm
      exact hQ _ c0 r0
    replace hm := Mi.ifF hb hm
    refine w_fall ?_
    refine q_ret ?_
    refine w_call ?_
    refine w_args (va_cons (val_var rfl) (va_cons (val_var rfl) va_nil)) ?_
    obtain ⟨q15, hq15, hm⟩ := Mi.bnd hm
    refine ⟨d1, q5.1, q15, rfl, hq15, fun H17 c16  => ?_⟩
    have r0 := Ty.ex r0 c16
    have c0 := c0.trans c16.none
    obtain rfl := Option.some.inj hm
    exact hQ _ c0 r0
abbrev s_l_patterns : Stmt := topS 22
abbrev N_l_patterns : List Str := ["_law_hand_here", "_law_count", "_law_rows", "_law_k"]
theorem sc_l_patterns : FnScope ["_law_hand_here", "_law_count", "_law_rows", "_law_k"] ["_law_hand_here", "_law_count"] (defScope s_l_patterns) := ⟨rfl, rfl, rfl, by decide +kernel, rfl, by decide +kernel, by decide +kernel⟩
def sp_l_patterns (K : PySem.W.Frag) : Sp := fun vs H Q _ => ∃ (v0 : V) (F0 : List Addr) (d0 : (List Int)) (d1 : Int) (r : ((List (List Nat)) × (List Int))), vs = [v0, (.int d1)] ∧ (yLst yInt).rep K H F0 v0 d0 ∧ Mi.m_l_patterns d0 d1 = some r ∧ ∀ v H' F, Chg (F0) H H' → (yLst yStr).rep K H' F v r.1 → (∀ a ∈ F, H a = none) → (yLst yInt).rep K H' F0 v0 r.2 → Q v H'
theorem ok_l_patterns (B : Bi mg) (CN : Cs mg) (D : Dfn K mg "_law_patterns" s_l_patterns) (C_l_pick : Cal P w K mg "_law_pick" ["_law_hand_here", "_law_size"] 1 (sp_l_pick K)) (C_l_pattern : Cal P w K mg "_law_pattern" ["_law_hand_here"] 2 (sp_l_pattern K)) (C_l_kin : Cal P w K mg "_law_kin" ["_law_hand_here", "_law_pattern_here"] 2 (sp_l_kin K)) : Cal P w K mg "_law_patterns" ["_law_hand_here", "_law_count"] 3 (sp_l_patterns K) := by
  obtain ⟨f, fd, F, g⟩ := D.ex
  refine ⟨f, fd, g, F.kp, bindsF F (fun _ _ _ _ _ _ us hl => match us, hl with | [_, _], _ => rfl), fun base => F.ok sc_l_patterns (fun vs H Q E h => ?_) (fun cdv A outer s H0 vs Q E hr h => ?_)⟩
  · obtain ⟨v0, F0, d0, d1, r, rfl, r0, hm, hQ⟩ := h; rfl
  ·
    obtain ⟨v0, F0, d0, d1, r, rfl, r0, hm, hQ⟩ := h
    refine ⟨_, pss_cons (ps_set (i := 2) sc_l_patterns.nd rfl (.inl rfl) (pe_lst pa_nil))
      (pss_cons (ps_for PassesOwn.never rfl (pi_range1 (by rfl) B.range (pa_cons (pv 1) pa_nil)) (pg_name (i := 3) sc_l_patterns.nd rfl (.inl rfl)) (pss_cons (ps_if (PW.pt (pw_and (pt_cmpR op_gt (pe_callB (cl_len (K := K)) (by rfl) B.len PySem.boot_len (pa_cons (pv 2) pa_nil)) pe_int (nomark _)) (pw_and1 (pt_cmpR op_eq (pe_cc C_l_pick hr (pa_cons (pv 0) (pa_cons pe_int pa_nil))) pe_int (nomark _))))) (pss_cons (ps_expr (pe_bm PySem.F.plainAttrs_list PySem.F.slot_list_append PySem.F.type_list_append mt_append (pv 2) (pa_cons (pe_cc C_l_kin hr (pa_cons (pv 0) (pa_cons (pe_ix (ix_l (K := K)) (pv 2) (pe_cc C_l_pick hr (pa_cons (pv 0) (pa_cons (pe_callB (cl_len (K := K)) (by rfl) B.len PySem.boot_len (pa_cons (pv 2) pa_nil)) pa_nil))) (fun _ _ => rfl)) pa_nil))) pa_nil)))
      (pss_nil)) (pss_cons (ps_expr (pe_bm PySem.F.plainAttrs_list PySem.F.slot_list_append PySem.F.type_list_append mt_append (pv 2) (pa_cons (pe_cc C_l_pattern hr (pa_cons (pv 0) pa_nil)) pa_nil)))
      (pss_nil)))
      (pss_nil)))
      (pss_cons (ps_ret (pv 2)) pss_nil)), ?_⟩
    have c0 : Chg (F0) H0 H0 := Chg.refl H0
    unfold Mi.m_l_patterns at hm
    refine q_asg ?_
    refine w_lst ?_
    refine w_args va_nil ?_
    refine e_lst (K := K) (τ := yStr) (by exact Nat.le_of_ble_eq_true rfl) .nil fun p1 H5 np4 c2 r3 => ?_
    have d6 : Dj F0 [p1] := Ty.nin r0 np4
    have n7 : ∀ a ∈ [p1], H0 a = none := one_fresh (c0.dom p1 np4)
    have r0 := Ty.ex r0 c2
    have c0 := c0.trans c2.none
    refine g_name (σ' := [some v0, some (.int d1), some (.ref p1), none]) rfl ?_
    refine q_for ?_
    refine w_iRng1 ?_
    refine w_args (va_cons (val_var rfl) va_nil) ?_
    obtain ⟨g8, hg8, hm⟩ := Mi.bnd hm
    obtain ⟨e9, he9, hm⟩ := Mi.bnd hm
    refine l_rng1 hg8 (fun i σ' H' => ∃ (s10 : ((List Int) × (List (List Nat)))) (y11 : Option V), σ' = [some v0, some (.int d1), some (.ref p1), y11] ∧ Chg (F0) H0 H' ∧ (yLst yInt).rep K H' F0 v0 s10.1 ∧ (yLst yStr).rep K H' [p1] (.ref p1) s10.2 ∧ Mi.forN (Mi.m_l_patterns_b1) s10 (List.drop i g8) = some e9) ⟨(d0, ([] : (List (List Nat)))), none, rfl, c0, r0, r3, he9⟩ (fun i14 x13 σ' H' hx12 hp => ?_) (fun σ' H' hp => ?_)
    ·
      obtain ⟨s10, y11, rfl, c0, r0, r3, hle9⟩ := hp
      obtain ⟨_, hbe9, hle9⟩ := Mi.forN_go hle9 hx12
      unfold Mi.m_l_patterns_b1 at hbe9
      refine g_name (σ' := [some v0, some (.int d1), some (.ref p1), some (.int x13)]) rfl ?_
      obtain ⟨s15, hs15, hbe9⟩ := Mi.bnd hbe9
      refine s_join (R := fun σ' H' => σ' = [some v0, some (.int d1), some (.ref p1), some (.int x13)] ∧ Chg (F0) H0 H' ∧ (yLst yInt).rep K H' F0 v0 s15.1 ∧ (yLst yStr).rep K H' [p1] (.ref p1) s15.2) (fun nx kx => ?_) (fun σ' H' hj => ?_)
      ·
        refine w_ifS ?_
        obtain ⟨b16, hb16, hs15⟩ := Mi.bnd hs15
        refine j_tt b16.1 (R := fun H' => Chg (F0) H0 H' ∧ (yLst yInt).rep K H' F0 v0 b16.2 ∧ (yLst yStr).rep K H' [p1] (.ref p1) s10.2) (fun Q' kq => ?_) (fun H' hj => ?_)
        ·
          refine w_and ?_
          refine c_ans (ans_t (val_gt (val_lenL r3 (val_var rfl)) val_c)) ?_
          refine c_if (fun hb => ?_) (fun hb => ?_)
          rotate_left
          ·
            replace hb16 := Mi.ifF hb hb16
            obtain rfl := Option.some.inj hb16
            exact kq _ ⟨c0, r0, r3⟩
          replace hb16 := Mi.ifT hb hb16
          refine w_test ?_
          refine w_op ?_
          refine w_call ?_
          refine w_args (va_cons (val_var rfl) (va_cons val_c va_nil)) ?_
          obtain ⟨q17, hq17, hb16⟩ := Mi.bnd hb16
          refine ⟨v0, F0, s10.1, (2 : Int), q17, rfl, r0, hq17, fun H19 c18 r0 => ?_⟩
          have r3 := Ty.chg r3 c18 d6.symm
          have c0 := c0.join c18 (fun a h => .inl (h))
          refine c_val val_c ?_
          refine w_eqI ?_
          refine ⟨_, rfl, ?_⟩
          obtain rfl := Option.some.inj hb16
          exact kq _ ⟨c0, r0, r3⟩
        obtain ⟨c0, r0, r3⟩ := hj
        refine c_if (fun hb => ?_) (fun hb => ?_)
        ·
          replace hs15 := Mi.ifT hb hs15
          refine q_drop (w_bm (c_val (val_var rfl) ⟨tyv_lst r3, ?_⟩))
          refine w_cons ?_
          refine w_call ?_
          refine w_cons ?_
          refine c_val (val_var rfl) ?_
          refine w_cons ?_
          refine w_op ?_
          refine c_val (val_var rfl) ?_
          refine w_call ?_
          refine w_args (va_cons (val_var rfl) (va_cons (val_lenL r3 (val_var rfl)) va_nil)) ?_
          obtain ⟨q20, hq20, hs15⟩ := Mi.bnd hs15
          refine ⟨v0, F0, b16.2, (s10.2.length : Int), q20, rfl, r0, hq20, fun H22 c21 r0 => ?_⟩
          have r3 := Ty.chg r3 c21 d6.symm
          have c0 := c0.join c21 (fun a h => .inl (h))
          obtain ⟨x23, hx23, hs15⟩ := Mi.bnd hs15
          refine w_ixL r3 hx23 fun u24 r25 => ?_
          obtain ⟨_, rfl⟩ := r25
          refine w_nil ?_
          obtain ⟨q26, hq26, hs15⟩ := Mi.bnd hs15
          refine ⟨v0, F0, q20.2, x23, q26, rfl, r0, hq26, fun H28 c27 r0 => ?_⟩
          have r3 := Ty.chg r3 c27 d6.symm
          have c0 := c0.join c27 (fun a h => .inl (h))
          refine w_nil ?_
          obtain ⟨x29, hx29, hs15⟩ := Mi.bnd hs15
          refine m_app r3 yStr_i hx29 fun H31 c30 r3 => ?_
          have r0 := Ty.chg r0 c30 d6
          have c0 := c0.join c30 (fun a h => .inr (n7 a h))
          refine w_nextJ ?_
          obtain rfl := Option.some.inj hs15
          exact kx _ _ ⟨rfl, c0, r0, r3⟩
        ·
          replace hs15 := Mi.ifF hb hs15
          refine q_drop (w_bm (c_val (val_var rfl) ⟨tyv_lst r3, ?_⟩))
          refine w_cons ?_
          refine w_call ?_
          refine w_args (va_cons (val_var rfl) va_nil) ?_
          obtain ⟨q32, hq32, hs15⟩ := Mi.bnd hs15
          refine ⟨v0, F0, b16.2, q32, rfl, r0, hq32, fun H34 c33 r0 => ?_⟩
          have r3 := Ty.chg r3 c33 d6.symm
          have c0 := c0.join c33 (fun a h => .inl (h))
          refine w_nil ?_
          obtain ⟨x35, hx35, hs15⟩ := Mi.bnd hs15
          refine m_app r3 yStr_i hx35 fun H37 c36 r3 => ?_
          have r0 := Ty.chg r0 c36 d6
          have c0 := c0.join c36 (fun a h => .inr (n7 a h))
          refine w_nextJ ?_
          obtain rfl := Option.some.inj hs15
          exact kx _ _ ⟨rfl, c0, r0, r3⟩
      obtain ⟨rfl, c0, r0, r3⟩ := hj
      refine w_nextJ ?_
      obtain rfl := Option.some.inj hbe9
      exact ⟨_, (some (.int x13)), rfl, c0, r0, r3, hle9⟩
    obtain ⟨s10, y11, rfl, c0, r0, r3, hle9⟩ := hp
    obtain rfl := Mi.forN_end hle9
    refine q_ret ?_
    refine c_val (val_var rfl) ?_
    obtain rfl := Option.some.inj hm
    exact hQ _ _ _ c0 r3 n7 r0
abbrev s_l_word : Stmt := topS 23
abbrev N_l_word : List Str := ["_law_hand_here", "_law_rows", "_law_size", "_law_kind", "_law_bits", "_law_pattern_here", "_law_word_here", "_law_k"]
theorem sc_l_word : FnScope ["_law_hand_here", "_law_rows", "_law_size", "_law_kind", "_law_bits", "_law_pattern_here", "_law_word_here", "_law_k"] ["_law_hand_here", "_law_rows"] (defScope s_l_word) := ⟨rfl, rfl, rfl, by decide +kernel, rfl, by decide +kernel, by decide +kernel⟩
def sp_l_word (K : PySem.W.Frag) : Sp := fun vs H Q _ => ∃ (v0 : V) (F0 : List Addr) (d0 : (List Int)) (v1 : V) (F1 : List Addr) (d1 : (List (List Nat))) (r : ((List Nat) × (List Int))), vs = [v0, v1] ∧ (yLst yInt).rep K H F0 v0 d0 ∧ (yLst yStr).rep K H F1 v1 d1 ∧ Dj F0 F1 ∧ Mi.m_l_word d0 d1 = some r ∧ ∀ H', Chg (F0) H H' → (yLst yInt).rep K H' F0 v0 r.2 → Q (.str (toS r.1)) H'
theorem ok_l_word (B : Bi mg) (CN : Cs mg) (D : Dfn K mg "_law_word" s_l_word) (C_l_pick : Cal P w K mg "_law_pick" ["_law_hand_here", "_law_size"] 1 (sp_l_pick K)) (C_l_shown : Cal P w K mg "_law_shown" ["_law_pattern_here", "_law_hour", "_law_count"] 1 (sp_l_shown K)) (C_l_changed : Cal P w K mg "_law_changed" ["_law_word_here", "_law_spot"] 1 (sp_l_changed K)) : Cal P w K mg "_law_word" ["_law_hand_here", "_law_rows"] 2 (sp_l_word K) := by
  obtain ⟨f, fd, F, g⟩ := D.ex
  refine ⟨f, fd, g, F.kp, bindsF F (fun _ _ _ _ _ _ us hl => match us, hl with | [_, _], _ => rfl), fun base => F.ok sc_l_word (fun vs H Q E h => ?_) (fun cdv A outer s H0 vs Q E hr h => ?_)⟩
  · obtain ⟨v0, F0, d0, v1, F1, d1, r, rfl, r0, r1, dd0_1, hm, hQ⟩ := h; rfl
  ·
    obtain ⟨v0, F0, d0, v1, F1, d1, r, rfl, r0, r1, dd0_1, hm, hQ⟩ := h
    refine ⟨_, pss_cons (ps_set (i := 2) sc_l_word.nd rfl (.inl rfl) (pe_cc C_l_pick hr (pa_cons (pv 0) (pa_cons (pe_ix (ix_l (K := K)) (pe_lst (pa_cons pe_int (pa_cons pe_int (pa_cons pe_int (pa_cons pe_int pa_nil))))) (pe_cc C_l_pick hr (pa_cons (pv 0) (pa_cons pe_int pa_nil))) (fun _ _ => rfl)) pa_nil))))
      (pss_cons (ps_set (i := 3) sc_l_word.nd rfl (.inl rfl) (pe_cc C_l_pick hr (pa_cons (pv 0) (pa_cons pe_int pa_nil))))
      (pss_cons (ps_if (PW.pt (pw_or (pt_cmpR op_eq (pv 3) pe_int (nomark _)) (pw_or1 (pt_cmpR op_eq (pe_callB (cl_len (K := K)) (by rfl) B.len PySem.boot_len (pa_cons (pv 1) pa_nil)) pe_int (nomark _))))) (pss_cons (ps_set (i := 4) sc_l_word.nd rfl (.inr rfl) (pe_cc C_l_pick hr (pa_cons (pv 0) (pa_cons (pe_op op_pow pe_int pe_int) pa_nil))))
      (pss_cons (ps_ret (pe_joinQ (K := K) pe_str (pe_lc (own := [("_law_k", 7)]) rfl sc_l_word.nd (pi_range1 (by rfl) B.range (pa_cons (pv 2) pa_nil)) (blkOk_by (own := [("_law_k", 7)]) (N := N_l_word) (sc := defScope s_l_word) (by decide +kernel)) (fun _ _ _ _ _ => (pg_name (i := 7) sc_l_word.nd rfl (.inl rfl))) (fun _ _ _ _ _ => pts_nil) (fun _ _ _ _ _ => (pe_ix ix_str pe_str (pe_op op_mod (pe_callTy cl_int (by rfl) B.int (by decide +kernel) (pa_cons (pe_op op_shr (pv 4) (pv 7)) pa_nil)) pe_int) (fun _ _ => rfl)))))) pss_nil)) (pss_nil))
      (pss_cons (ps_set (i := 5) sc_l_word.nd rfl (.inl rfl) (pe_ix (ix_l (K := K)) (pv 1) (pe_cc C_l_pick hr (pa_cons (pv 0) (pa_cons (pe_callB (cl_len (K := K)) (by rfl) B.len PySem.boot_len (pa_cons (pv 1) pa_nil)) pa_nil))) (fun _ _ => rfl)))
      (pss_cons (ps_set (i := 6) sc_l_word.nd rfl (.inl rfl) (pe_cc C_l_shown hr (pa_cons (pv 5) (pa_cons (pe_cc C_l_pick hr (pa_cons (pv 0) (pa_cons (pe_callB cl_lenTx (by rfl) B.len PySem.boot_len (pa_cons (pv 5) pa_nil)) pa_nil))) (pa_cons (pv 2) pa_nil)))))
      (pss_cons (ps_if (PW.pt (pw_and (pt_cmpR op_eq (pv 3) pe_int (nomark _)) (pw_and1 (pt_cmpR op_gt (pv 2) pe_int (nomark _))))) (pss_cons (ps_ret (pe_cc C_l_changed hr (pa_cons (pv 6) (pa_cons (pe_cc C_l_pick hr (pa_cons (pv 0) (pa_cons (pv 2) pa_nil))) pa_nil)))) pss_nil) (pss_nil))
      (pss_cons (ps_ret (pv 6)) pss_nil)))))), ?_⟩
    have c0 : Chg (F0) H0 H0 := Chg.refl H0
    unfold Mi.m_l_word at hm
    refine q_asg ?_
    refine w_call ?_
    refine w_cons ?_
    refine c_val (val_var rfl) ?_
    refine w_cons ?_
    refine w_op ?_
    refine w_lst ?_
    refine w_args (va_cons val_c (va_cons val_c (va_cons val_c (va_cons val_c va_nil)))) ?_
    refine e_lst (K := K) (τ := yInt) (by exact Nat.le_of_ble_eq_true rfl) (.cons yInt_i (.cons yInt_i (.cons yInt_i (.cons yInt_i .nil)))) fun p1 H5 np4 c2 r3 => ?_
    have d6 : Dj F0 [p1] := Ty.nin r0 np4
    have d7 : Dj F1 [p1] := Ty.nin r1 np4
    have n8 : ∀ a ∈ [p1], H0 a = none := one_fresh (c0.dom p1 np4)
    have r0 := Ty.ex r0 c2
    have r1 := Ty.ex r1 c2
    have c0 := c0.trans c2.none
    refine w_call ?_
    refine w_args (va_cons (val_var rfl) (va_cons val_c va_nil)) ?_
    obtain ⟨q9, hq9, hm⟩ := Mi.bnd hm
    refine ⟨v0, F0, d0, (4 : Int), q9, rfl, r0, hq9, fun H11 c10 r0 => ?_⟩
    have r1 := Ty.chg r1 c10 dd0_1.symm
    have r3 := Ty.chg r3 c10 d6.symm
    have c0 := c0.join c10 (fun a h => .inl (h))
    obtain ⟨x12, hx12, hm⟩ := Mi.bnd hm
    refine w_ixL r3 hx12 fun u13 r14 => ?_
    obtain ⟨_, rfl⟩ := r14
    refine w_nil ?_
    obtain ⟨q15, hq15, hm⟩ := Mi.bnd hm
    refine ⟨v0, F0, q9.2, x12, q15, rfl, r0, hq15, fun H17 c16 r0 => ?_⟩
    have r1 := Ty.chg r1 c16 dd0_1.symm
    have c0 := c0.join c16 (fun a h => .inl (h))
    refine g_name (σ' := [some v0, some v1, some (.int q15.1), none, none, none, none, none]) rfl ?_
    refine q_asg ?_
    refine w_call ?_
    refine w_args (va_cons (val_var rfl) (va_cons val_c va_nil)) ?_
    obtain ⟨q18, hq18, hm⟩ := Mi.bnd hm
    refine ⟨v0, F0, q15.2, (4 : Int), q18, rfl, r0, hq18, fun H20 c19 r0 => ?_⟩
    have r1 := Ty.chg r1 c19 dd0_1.symm
    have c0 := c0.join c19 (fun a h => .inl (h))
    refine g_name (σ' := [some v0, some v1, some (.int q15.1), some (.int q18.1), none, none, none, none]) rfl ?_
    refine q_if (ans_orB (ans_t (val_eqI (val_var rfl) val_c)) (fun _ => (ans_t (val_eqI (val_lenL r1 (val_var rfl)) val_c)))) (fun hb => ?_) (fun hb => ?_)
    ·
      replace hm := Mi.ifT hb hm
      refine q_asg ?_
      refine w_call ?_
      refine w_args (va_cons (val_var rfl) (va_cons (val_pow (n := 60) val_c val_c rfl (by decide) (by decide)) va_nil)) ?_
      obtain ⟨q22, hq22, hm⟩ := Mi.bnd hm
      refine ⟨v0, F0, q18.2, ((2 : Int) ^ 60), q22, rfl, r0, hq22, fun H24 c23 r0 => ?_⟩
      have r1 := Ty.chg r1 c23 dd0_1.symm
      have c0 := c0.join c23 (fun a h => .inl (h))
      refine g_name (σ' := [some v0, some v1, some (.int q15.1), some (.int q18.1), some (.int q22.1), none, none, none]) rfl ?_
      refine q_ret ?_
      refine w_m1 ?_
      refine c_val (val_cS (a := ([] : List Nat)) (by decide +kernel)) ?_
      refine ⟨⟨_, rfl⟩, ?_⟩
      refine w_lc ?_
      refine w_iRng1 ?_
      refine w_args (va_cons (val_var rfl) va_nil) ?_
      obtain ⟨g25, hg25, hm⟩ := Mi.bnd hm
      obtain ⟨e26, he26, hm⟩ := Mi.bnd hm
      refine kc_rng1 (K := K) (τ := yStr) hg25 (fun D28 i H' => ∃ (s27 : (List (List Nat))), Chg (F0) H0 H' ∧ (yLst yInt).rep K H' F0 v0 q22.2 ∧ (yLst yStr).rep K H' F1 v1 d1 ∧ (yLst yStr).rep K H' [D28] (.ref D28) s27 ∧ Dj F0 [D28] ∧ Dj F1 [D28] ∧ (∀ a ∈ [D28], H0 a = none) ∧ Mi.forN (Mi.m_l_word_b1 q22) s27 (List.drop i g25) = some e26) (fun D28 H35 np34 c33 r29 => ⟨([] : (List (List Nat))), c0.trans c33.none, (Ty.ex r0 c33), (Ty.ex r1 c33), r29, Ty.nin r0 np34, Ty.nin r1 np34, one_fresh (c0.dom D28 np34), he26⟩) (fun D28 i38 x37 H39 hx36 hp => ?_) (fun D28 H' np34 hp => ?_)
      ·
        obtain ⟨s27, c0, r0, r1, r29, d30, d31, n32, hle26⟩ := hp
        obtain ⟨_, hbe26, hle26⟩ := Mi.forN_go hle26 hx36
        unfold Mi.m_l_word_b1 at hbe26
        refine g_name (σ' := [some v0, some v1, some (.int q15.1), some (.int q18.1), some (.int q22.1), none, none, some (.int x37)]) rfl ?_
        refine ⟨rfl, ?_⟩
        refine w_yes ?_
        refine iteT ?_
        obtain ⟨x44, hx44, hbe26⟩ := Mi.bnd hbe26
        obtain ⟨x45, hx45, hbe26⟩ := Mi.bnd hbe26
        refine c_val (val_ixS hx45 (val_cS (a := ([42, 46] : List Nat)) (by decide +kernel)) (val_modc (val_int (val_shrO (val_var rfl) (val_var rfl) hx44)) val_c (by decide))) ?_
        obtain ⟨x46, hx46, hbe26⟩ := Mi.bnd hbe26
        refine e_app r29 yStr_i hx46 fun H48 c47 r29 => ?_
        have r0 := Ty.chg r0 c47 d30
        have r1 := Ty.chg r1 c47 d31
        have c0 := c0.join c47 (fun a h => .inr (n32 a h))
        obtain rfl := Option.some.inj hbe26
        exact ⟨_, c0, r0, r1, r29, d30, d31, n32, hle26⟩
      obtain ⟨s27, c0, r0, r1, r29, d30, d31, n32, hle26⟩ := hp
      obtain rfl := Mi.forN_end hle26
      obtain ⟨x49, hx49, hm⟩ := Mi.bnd hm
      refine w_joinL r29 hx49 ?_
      obtain rfl := Option.some.inj hm
      exact hQ _ c0 r0
    replace hm := Mi.ifF hb hm
    refine w_fall ?_
    refine q_asg ?_
    refine w_op ?_
    refine c_val (val_var rfl) ?_
    refine w_call ?_
    refine w_args (va_cons (val_var rfl) (va_cons (val_lenL r1 (val_var rfl)) va_nil)) ?_
    obtain ⟨q50, hq50, hm⟩ := Mi.bnd hm
    refine ⟨v0, F0, q18.2, (d1.length : Int), q50, rfl, r0, hq50, fun H52 c51 r0 => ?_⟩
    have r1 := Ty.chg r1 c51 dd0_1.symm
    have c0 := c0.join c51 (fun a h => .inl (h))
    obtain ⟨x53, hx53, hm⟩ := Mi.bnd hm
    refine w_ixL r1 hx53 fun u54 r55 => ?_
    obtain ⟨_, rfl⟩ := r55
    refine g_name (σ' := [some v0, some v1, some (.int q15.1), some (.int q18.1), none, some (.str (toS x53)), none, none]) rfl ?_
    refine q_asg ?_
    refine w_call ?_
    refine w_cons ?_
    refine c_val (val_var rfl) ?_
    refine w_cons ?_
    refine w_call ?_
    obtain ⟨x56, hx56, hm⟩ := Mi.bnd hm
    refine w_args (va_cons (val_var rfl) (va_cons (val_lenTx hx56 (val_var rfl)) va_nil)) ?_
    obtain ⟨q57, hq57, hm⟩ := Mi.bnd hm
    refine ⟨v0, F0, q50.2, x56, q57, rfl, r0, hq57, fun H59 c58 r0 => ?_⟩
    have r1 := Ty.chg r1 c58 dd0_1.symm
    have c0 := c0.join c58 (fun a h => .inl (h))
    refine w_cons ?_
    refine c_val (val_var rfl) ?_
    refine w_nil ?_
    obtain ⟨q60, hq60, hm⟩ := Mi.bnd hm
    refine ⟨x53, q57.1, q15.1, q60, rfl, hq60, fun H62 c61  => ?_⟩
    have r0 := Ty.ex r0 c61
    have r1 := Ty.ex r1 c61
    have c0 := c0.trans c61.none
    refine g_name (σ' := [some v0, some v1, some (.int q15.1), some (.int q18.1), none, some (.str (toS x53)), some (.str (toS q60)), none]) rfl ?_
    refine q_if (ans_andB (ans_t (val_eqI (val_var rfl) val_c)) (fun _ => (ans_t (val_gt (val_var rfl) val_c)))) (fun hb => ?_) (fun hb => ?_)
    ·
      replace hm := Mi.ifT hb hm
      refine q_ret ?_
      refine w_call ?_
      refine w_cons ?_
      refine c_val (val_var rfl) ?_
      refine w_cons ?_
      refine w_call ?_
      refine w_args (va_cons (val_var rfl) (va_cons (val_var rfl) va_nil)) ?_
      obtain ⟨q64, hq64, hm⟩ := Mi.bnd hm
      refine ⟨v0, F0, q57.2, q15.1, q64, rfl, r0, hq64, fun H66 c65 r0 => ?_⟩
      have r1 := Ty.chg r1 c65 dd0_1.symm
      have c0 := c0.join c65 (fun a h => .inl (h))
      refine w_nil ?_
      obtain ⟨q67, hq67, hm⟩ := Mi.bnd hm
      refine ⟨q60, q64.1, q67, rfl, hq67, fun H69 c68  => ?_⟩
      have r0 := Ty.ex r0 c68
      have r1 := Ty.ex r1 c68
      have c0 := c0.trans c68.none
      obtain rfl := Option.some.inj hm
      exact hQ _ c0 r0
    replace hm := Mi.ifF hb hm
    refine w_fall ?_
    refine q_ret ?_
    refine c_val (val_var rfl) ?_
    obtain rfl := Option.some.inj hm
    exact hQ _ c0 r0
abbrev s_l_readings : Stmt := topS 24
abbrev N_l_readings : List Str := ["_law_rows", "_law_word_here", "_law_found", "_law_index", "_law_shift"]
theorem sc_l_readings : FnScope ["_law_rows", "_law_word_here", "_law_found", "_law_index", "_law_shift"] ["_law_rows", "_law_word_here"] (defScope s_l_readings) := ⟨rfl, rfl, rfl, by decide +kernel, rfl, by decide +kernel, by decide +kernel⟩
def sp_l_readings (K : PySem.W.Frag) : Sp := fun vs H Q _ => ∃ (v0 : V) (F0 : List Addr) (d0 : (List (List Nat))) (d1 : (List Nat)) (r : (List (Int × Int))), vs = [v0, (.str (toS d1))] ∧ (yLst yStr).rep K H F0 v0 d0 ∧ Mi.m_l_readings d0 d1 = some r ∧ ∀ v H' F, Chg ([]) H H' → (yLst (yTup (sCons yInt (sOne yInt)))).rep K H' F v r → (∀ a ∈ F, H a = none) → Q v H'
theorem ok_l_readings (B : Bi mg) (CN : Cs mg) (D : Dfn K mg "_law_readings" s_l_readings) (C_l_shown : Cal P w K mg "_law_shown" ["_law_pattern_here", "_law_hour", "_law_count"] 1 (sp_l_shown K)) : Cal P w K mg "_law_readings" ["_law_rows", "_law_word_here"] 2 (sp_l_readings K) := by
  obtain ⟨f, fd, F, g⟩ := D.ex
  refine ⟨f, fd, g, F.kp, bindsF F (fun _ _ _ _ _ _ us hl => match us, hl with | [_, _], _ => rfl), fun base => F.ok sc_l_readings (fun vs H Q E h => ?_) (fun cdv A outer s H0 vs Q E hr h => ?_)⟩
  · obtain ⟨v0, F0, d0, d1, r, rfl, r0, hm, hQ⟩ := h; rfl
  ·
    obtain ⟨v0, F0, d0, d1, r, rfl, r0, hm, hQ⟩ := h
    refine ⟨_, pss_cons (ps_set (i := 2) sc_l_readings.nd rfl (.inl rfl) (pe_lst pa_nil))
      (pss_cons (ps_for PassesOwn.never rfl (pi_range1 (by rfl) B.range (pa_cons (pe_callB (cl_len (K := K)) (by rfl) B.len PySem.boot_len (pa_cons (pv 0) pa_nil)) pa_nil)) (pg_name (i := 3) sc_l_readings.nd rfl (.inl rfl)) (pss_cons (ps_for PassesOwn.never rfl (pi_range1 (by rfl) B.range (pa_cons (pe_callB cl_lenTx (by rfl) B.len PySem.boot_len (pa_cons (pe_ix (ix_l (K := K)) (pv 0) (pv 3) (fun _ _ => rfl)) pa_nil)) pa_nil)) (pg_name (i := 4) sc_l_readings.nd rfl (.inl rfl)) (pss_cons (ps_if (pt_cmpR op_eq (pe_cc C_l_shown hr (pa_cons (pe_ix (ix_l (K := K)) (pv 0) (pv 3) (fun _ _ => rfl)) (pa_cons (pv 4) (pa_cons (pe_callB cl_lenTx (by rfl) B.len PySem.boot_len (pa_cons (pv 1) pa_nil)) pa_nil)))) (pv 1) (nomark _)) (pss_cons (ps_expr (pe_bm PySem.F.plainAttrs_list PySem.F.slot_list_append PySem.F.type_list_append mt_append (pv 2) (pa_cons (pe_tup (pa_cons (pv 3) (pa_cons (pv 4) pa_nil))) pa_nil)))
      (pss_nil)) (pss_nil))
      (pss_nil)))
      (pss_nil)))
      (pss_cons (ps_ret (pv 2)) pss_nil)), ?_⟩
    have c0 : Chg ([] : List Addr) H0 H0 := Chg.refl H0
    unfold Mi.m_l_readings at hm
    refine q_asg ?_
    refine w_lst ?_
    refine w_args va_nil ?_
    refine e_lst (K := K) (τ := (yTup (sCons yInt (sOne yInt)))) (by exact Nat.le_of_ble_eq_true rfl) .nil fun p1 H5 np4 c2 r3 => ?_
    have d6 : Dj F0 [p1] := Ty.nin r0 np4
    have n7 : ∀ a ∈ [p1], H0 a = none := one_fresh (c0.dom p1 np4)
    have r0 := Ty.ex r0 c2
    have c0 := c0.trans c2.none
    refine g_name (σ' := [some v0, some (.str (toS d1)), some (.ref p1), none, none]) rfl ?_
    refine q_for ?_
    refine w_iRng1 ?_
    refine w_args (va_cons (val_lenL r0 (val_var rfl)) va_nil) ?_
    obtain ⟨g8, hg8, hm⟩ := Mi.bnd hm
    obtain ⟨e9, he9, hm⟩ := Mi.bnd hm
    refine l_rng1 hg8 (fun i σ' H' => ∃ (s10 : (List (Int × Int))) (y11 : Option V) (y12 : Option V), σ' = [some v0, some (.str (toS d1)), some (.ref p1), y11, y12] ∧ Chg ([] : List Addr) H0 H' ∧ (yLst yStr).rep K H' F0 v0 d0 ∧ (yLst (yTup (sCons yInt (sOne yInt)))).rep K H' [p1] (.ref p1) s10 ∧ Mi.forN (Mi.m_l_readings_b1 d0 d1) s10 (List.drop i g8) = some e9) ⟨([] : (List (Int × Int))), none, none, rfl, c0, r0, r3, he9⟩ (fun i15 x14 σ' H' hx13 hp => ?_) (fun σ' H' hp => ?_)
    ·
      obtain ⟨s10, y11, y12, rfl, c0, r0, r3, hle9⟩ := hp
      obtain ⟨_, hbe9, hle9⟩ := Mi.forN_go hle9 hx13
      unfold Mi.m_l_readings_b1 at hbe9
      refine g_name (σ' := [some v0, some (.str (toS d1)), some (.ref p1), some (.int x14), y12]) rfl ?_
      refine q_for ?_
      refine w_iRng1 ?_
      obtain ⟨x16, hx16, hbe9⟩ := Mi.bnd hbe9
      obtain ⟨u17, r18, ku19⟩ := itm_L r0 hx16
      obtain ⟨_, rfl⟩ := r18
      obtain ⟨x20, hx20, hbe9⟩ := Mi.bnd hbe9
      refine w_args (va_cons (val_lenTx hx20 (ku19 (val_var rfl) (val_var rfl))) va_nil) ?_
      obtain ⟨g21, hg21, hbe9⟩ := Mi.bnd hbe9
      obtain ⟨e22, he22, hbe9⟩ := Mi.bnd hbe9
      refine l_rng1 hg21 (fun i σ' H' => ∃ (s23 : (List (Int × Int))) (y24 : Option V), σ' = [some v0, some (.str (toS d1)), some (.ref p1), some (.int x14), y24] ∧ Chg ([] : List Addr) H0 H' ∧ (yLst yStr).rep K H' F0 v0 d0 ∧ (yLst (yTup (sCons yInt (sOne yInt)))).rep K H' [p1] (.ref p1) s23 ∧ Mi.forN (Mi.m_l_readings_b2 d0 d1 x14) s23 (List.drop i g21) = some e22) ⟨s10, y12, rfl, c0, r0, r3, he22⟩ (fun i27 x26 σ' H' hx25 hp => ?_) (fun σ' H' hp => ?_)
      ·
        obtain ⟨s23, y24, rfl, c0, r0, r3, hle22⟩ := hp
        obtain ⟨_, hbe22, hle22⟩ := Mi.forN_go hle22 hx25
        unfold Mi.m_l_readings_b2 at hbe22
        refine g_name (σ' := [some v0, some (.str (toS d1)), some (.ref p1), some (.int x14), some (.int x26)]) rfl ?_
        obtain ⟨s28, hs28, hbe22⟩ := Mi.bnd hbe22
        refine s_join (R := fun σ' H' => σ' = [some v0, some (.str (toS d1)), some (.ref p1), some (.int x14), some (.int x26)] ∧ Chg ([] : List Addr) H0 H' ∧ (yLst yStr).rep K H' F0 v0 d0 ∧ (yLst (yTup (sCons yInt (sOne yInt)))).rep K H' [p1] (.ref p1) s28) (fun nx kx => ?_) (fun σ' H' hj => ?_)
        ·
          refine w_ifS ?_
          refine w_test ?_
          refine w_op ?_
          refine w_call ?_
          obtain ⟨x29, hx29, hs28⟩ := Mi.bnd hs28
          obtain ⟨u30, r31, ku32⟩ := itm_L r0 hx29
          obtain ⟨_, rfl⟩ := r31
          obtain ⟨x33, hx33, hs28⟩ := Mi.bnd hs28
          refine w_args (va_cons (ku32 (val_var rfl) (val_var rfl)) (va_cons (val_var rfl) (va_cons (val_lenTx hx33 (val_var rfl)) va_nil))) ?_
          obtain ⟨q34, hq34, hs28⟩ := Mi.bnd hs28
          refine ⟨x29, x26, x33, q34, rfl, hq34, fun H36 c35  => ?_⟩
          have r0 := Ty.ex r0 c35
          have r3 := Ty.ex r3 c35
          have c0 := c0.trans c35.none
          refine c_val (val_var rfl) ?_
          refine w_eqS ?_
          refine ⟨_, rfl, ?_⟩
          refine c_if (fun hb => ?_) (fun hb => ?_)
          ·
            replace hs28 := Mi.ifT hb hs28
            refine q_drop (w_bm (c_val (val_var rfl) ⟨tyv_lst r3, ?_⟩))
            refine w_cons ?_
            refine w_tup ?_
            refine w_args (va_cons (val_var rfl) (va_cons (val_var rfl) va_nil)) ?_
            refine e_tup (K := K) (ty := (sCons yInt (sOne yInt))) (F := []) (d := (x14, x26)) (by exact Nat.le_of_ble_eq_true rfl) ⟨_, _, _, _, rfl, rfl, yInt_i, ⟨_, rfl, yInt_i⟩⟩ fun p37 H41 np40 c38 r39 => ?_
            have r0 := Ty.ex r0 c38
            have r3 := Ty.ex r3 c38
            have c0 := c0.trans c38.none
            refine w_nil ?_
            obtain ⟨x42, hx42, hs28⟩ := Mi.bnd hs28
            refine m_app r3 r39 hx42 fun H44 c43 r3 => ?_
            have r0 := Ty.chg r0 c43 d6
            have c0 := c0.join c43 (fun a h => .inr (n7 a h))
            refine w_nextJ ?_
            obtain rfl := Option.some.inj hs28
            exact kx _ _ ⟨rfl, c0, r0, r3⟩
          ·
            replace hs28 := Mi.ifF hb hs28
            refine w_nextJ ?_
            obtain rfl := Option.some.inj hs28
            exact kx _ _ ⟨rfl, c0, r0, r3⟩
        obtain ⟨rfl, c0, r0, r3⟩ := hj
        refine w_nextJ ?_
        obtain rfl := Option.some.inj hbe22
        exact ⟨_, (some (.int x26)), rfl, c0, r0, r3, hle22⟩
      obtain ⟨s23, y24, rfl, c0, r0, r3, hle22⟩ := hp
      obtain rfl := Mi.forN_end hle22
      refine w_nextJ ?_
      obtain rfl := Option.some.inj hbe9
      exact ⟨_, (some (.int x14)), y24, rfl, c0, r0, r3, hle9⟩
    obtain ⟨s10, y11, y12, rfl, c0, r0, r3, hle9⟩ := hp
    obtain rfl := Mi.forN_end hle9
    refine q_ret ?_
    refine c_val (val_var rfl) ?_
    obtain rfl := Option.some.inj hm
    exact hQ _ _ _ c0 r3 n7 
abbrev s_l_certain : Stmt := topS 25
abbrev N_l_certain : List Str := ["_law_found", "_law_row"]
theorem sc_l_certain : FnScope ["_law_found", "_law_row"] ["_law_found"] (defScope s_l_certain) := ⟨rfl, rfl, rfl, by decide +kernel, rfl, by decide +kernel, by decide +kernel⟩
def sp_l_certain (K : PySem.W.Frag) : Sp := fun vs H Q _ => ∃ (v0 : V) (F0 : List Addr) (d0 : (List (Int × Int))) (r : (Option Int)), vs = [v0] ∧ (yLst (yTup (sCons yInt (sOne yInt)))).rep K H F0 v0 d0 ∧ Mi.m_l_certain d0 = some r ∧ ∀ v H', Chg ([]) H H' → (yOpt yInt).rep K H' [] v r → Q v H'
theorem ok_l_certain (B : Bi mg) (CN : Cs mg) (D : Dfn K mg "_law_certain" s_l_certain)  : Cal P w K mg "_law_certain" ["_law_found"] 1 (sp_l_certain K) := by
  obtain ⟨f, fd, F, g⟩ := D.ex
  refine ⟨f, fd, g, F.kp, bindsF F (fun _ _ _ _ _ _ us hl => match us, hl with | [_], _ => rfl), fun base => F.ok sc_l_certain (fun vs H Q E h => ?_) (fun cdv A outer s H0 vs Q E hr h => ?_)⟩
  · obtain ⟨v0, F0, d0, r, rfl, r0, hm, hQ⟩ := h; rfl
  ·
    obtain ⟨v0, F0, d0, r, rfl, r0, hm, hQ⟩ := h
    refine ⟨_, pss_cons (ps_if (PW.pt (pw_or (pt_cmpR op_eq (pe_callB (cl_len (K := K)) (by rfl) B.len PySem.boot_len (pa_cons (pv 0) pa_nil)) pe_int (nomark _)) (pw_or1 (pt_cmpR op_gt (pe_callB (cl_len (K := K)) (by rfl) B.len PySem.boot_len (pa_cons (pe_lc (own := [("_law_row", 1)]) rfl sc_l_certain.nd (pi_list (pv 0)) (blkOk_by (own := [("_law_row", 1)]) (N := N_l_certain) (sc := defScope s_l_certain) (by decide +kernel)) (fun _ _ _ _ _ => (pg_name (i := 1) sc_l_certain.nd rfl (.inl rfl))) (fun _ _ _ _ _ => (pts_one (pt_cmpR op_ne (pe_ix (ix_t (K := K)) (pv 1) pe_int (fun _ _ => rfl)) (pe_ix (ix_t (K := K)) (pe_ix (ix_l (K := K)) (pv 0) pe_int (fun _ _ => rfl)) pe_int (fun _ _ => rfl)) (nomark _)))) (fun _ _ _ _ _ => (pv 1))) pa_nil)) pe_int (nomark _))))) (pss_cons (ps_ret pe_non) pss_nil) (pss_nil))
      (pss_cons (ps_ret (pe_ix (ix_t (K := K)) (pe_ix (ix_l (K := K)) (pv 0) pe_int (fun _ _ => rfl)) pe_int (fun _ _ => rfl))) pss_nil), ?_⟩
    have c0 : Chg ([] : List Addr) H0 H0 := Chg.refl H0
    unfold Mi.m_l_certain at hm
    refine q_ifS ?_
    obtain ⟨b1, hb1, hm⟩ := Mi.bnd hm
    refine j_tt b1 (R := fun H' => Chg ([] : List Addr) H0 H' ∧ (yLst (yTup (sCons yInt (sOne yInt)))).rep K H' F0 v0 d0) (fun Q' kq => ?_) (fun H' hj => ?_)
    ·
      refine w_or ?_
      refine c_ans (ans_t (val_eqI (val_lenL r0 (val_var rfl)) val_c)) ?_
      refine c_if (fun hb => ?_) (fun hb => ?_)
      ·
        replace hb1 := Mi.ifT hb hb1
        obtain rfl := Option.some.inj hb1
        exact kq _ ⟨c0, r0⟩
      replace hb1 := Mi.ifF hb hb1
      refine w_test ?_
      refine w_op ?_
      refine w_cb ?_
      refine w_cons ?_
      refine w_lc ?_
      refine w_iList ?_
      refine c_val (val_var rfl) ?_
      obtain ⟨e2, he2, hb1⟩ := Mi.bnd hb1
      refine kc_lst (K := K) (τ := (yTup (sCons yInt (sOne yInt)))) r0 (fun D4 i H' => ∃ (s3 : (List (Int × Int))), Chg ([] : List Addr) H0 H' ∧ (yLst (yTup (sCons yInt (sOne yInt)))).rep K H' F0 v0 d0 ∧ (yLst (yTup (sCons yInt (sOne yInt)))).rep K H' [D4] (.ref D4) s3 ∧ Dj F0 [D4] ∧ (∀ a ∈ [D4], H0 a = none) ∧ Mi.forN (Mi.m_l_certain_b1 d0) s3 (List.drop i d0) = some e2) (fun D4 H10 np9 c8 r5 => ⟨([] : (List (Int × Int))), c0.trans c8.none, (Ty.ex r0 c8), r5, Ty.nin r0 np9, one_fresh (c0.dom D4 np9), he2⟩) (fun D4 i H' hp => by obtain ⟨s3, c0, r0, r5, d6, n7, _⟩ := hp; exact r0) (fun D4 i13 x12 u15 H14 hx11 r16 hp => ?_) (fun D4 H' np9 hp => ?_)
      ·
        obtain ⟨s3, c0, r0, r5, d6, n7, hle2⟩ := hp
        obtain ⟨_, hbe2, hle2⟩ := Mi.forN_go hle2 hx11
        unfold Mi.m_l_certain_b1 at hbe2
        refine g_name (σ' := [some v0, some u15]) rfl ?_
        refine ⟨rfl, ?_⟩
        obtain ⟨u19, F20, r21, su22, kx23, ku24⟩ := itm_tup (n := 0) at0 r16
        obtain ⟨rfl, rfl⟩ := r21
        obtain ⟨x25, hx25, hbe2⟩ := Mi.bnd hbe2
        obtain ⟨u26, r27, ku28⟩ := itm_L r0 hx25
        obtain ⟨u29, F30, r31, su32, kx33, ku34⟩ := itm_tup (n := 0) at0 r27
        obtain ⟨rfl, rfl⟩ := r31
        refine c_ans (ans_t (val_neI (ku24 (val_var rfl) val_c) (ku34 (ku28 (val_var rfl) val_c) val_c))) ?_
        refine c_if (fun hb => ?_) (fun hb => ?_)
        ·
          replace hbe2 := Mi.ifT hb hbe2
          refine c_val (val_var rfl) ?_
          obtain ⟨x35, hx35, hbe2⟩ := Mi.bnd hbe2
          refine e_app r5 r16 hx35 fun H37 c36 r5 => ?_
          have r0 := Ty.chg r0 c36 d6
          have r16 := Ty.fz r16 c36
          have c0 := c0.join c36 (fun a h => .inr (n7 a h))
          obtain rfl := Option.some.inj hbe2
          exact ⟨_, c0, r0, r5, d6, n7, hle2⟩
        ·
          replace hbe2 := Mi.ifF hb hbe2
          obtain rfl := Option.some.inj hbe2
          exact ⟨_, c0, r0, r5, d6, n7, hle2⟩
      obtain ⟨s3, c0, r0, r5, d6, n7, hle2⟩ := hp
      obtain rfl := Mi.forN_end hle2
      refine w_nil ?_
      refine w_lenL r5 ?_
      refine c_val val_c ?_
      refine w_I0 ?_
      refine ⟨_, rfl, ?_⟩
      obtain rfl := Option.some.inj hb1
      exact kq _ ⟨c0, r0⟩
    obtain ⟨c0, r0⟩ := hj
    refine c_if (fun hb => ?_) (fun hb => ?_)
    ·
      replace hm := Mi.ifT hb hm
      refine q_ret ?_
      refine c_val val_c ?_
      obtain rfl := Option.some.inj hm
      exact hQ _ _ c0 (show _ ∧ _ from ⟨rfl, rfl⟩) 
    replace hm := Mi.ifF hb hm
    refine w_fall ?_
    refine q_ret ?_
    obtain ⟨x38, hx38, hm⟩ := Mi.bnd hm
    obtain ⟨u39, r40, ku41⟩ := itm_L r0 hx38
    obtain ⟨u42, F43, r44, su45, kx46, ku47⟩ := itm_tup (n := 0) at0 r40
    obtain ⟨rfl, rfl⟩ := r44
    refine c_val (ku47 (ku41 (val_var rfl) val_c) val_c) ?_
    obtain rfl := Option.some.inj hm
    exact hQ _ _ c0 (show _ ∧ _ from ⟨nn_int, yInt_i⟩) 
abbrev s_l_are_pairs : Stmt := topS 26
abbrev N_l_are_pairs : List Str := ["_law_told", "_law_due", "_law_row"]
theorem sc_l_are_pairs : FnScope ["_law_told", "_law_due", "_law_row"] ["_law_told", "_law_due"] (defScope s_l_are_pairs) := ⟨rfl, rfl, rfl, by decide +kernel, rfl, by decide +kernel, by decide +kernel⟩
def sp_l_are_pairs (K : PySem.W.Frag) : Sp := fun vs H Q _ => ∃ (v0 : V) (F0 : List Addr) (d0 : (List (Int × Int))) (v1 : V) (F1 : List Addr) (d1 : (List (Int × Int))) (r : Bool), vs = [v0, v1] ∧ (yLst (yTup (sCons yInt (sOne yInt)))).rep K H F0 v0 d0 ∧ (yLst (yTup (sCons yInt (sOne yInt)))).rep K H F1 v1 d1 ∧ Mi.m_l_are_pairs d0 d1 = some r ∧ ∀ H', Chg ([]) H H' → Q (.bl r) H'
theorem ok_l_are_pairs (B : Bi mg) (CN : Cs mg) (D : Dfn K mg "_law_are_pairs" s_l_are_pairs) (C_l_int : Cal P w K mg "_law_int" ["_law_x"] 1 (sp_l_int K)) : Cal P w K mg "_law_are_pairs" ["_law_told", "_law_due"] 2 (sp_l_are_pairs K) := by
  obtain ⟨f, fd, F, g⟩ := D.ex
  refine ⟨f, fd, g, F.kp, bindsF F (fun _ _ _ _ _ _ us hl => match us, hl with | [_, _], _ => rfl), fun base => F.ok sc_l_are_pairs (fun vs H Q E h => ?_) (fun cdv A outer s H0 vs Q E hr h => ?_)⟩
  · obtain ⟨v0, F0, d0, v1, F1, d1, r, rfl, r0, r1, hm, hQ⟩ := h; rfl
  ·
    obtain ⟨v0, F0, d0, v1, F1, d1, r, rfl, r0, r1, hm, hQ⟩ := h
    refine ⟨_, pss_cons (ps_if (PW.pt (pw_or (pt_not (pt_val (pe_callB (cl_isi (K := K)) (by rfl) B.isinstance (by decide +kernel) (pa_cons (pv 0) (pa_cons (pe_bltn (v := .ty "list") (by rfl) B.list (by decide +kernel) rfl) pa_nil))))) (pw_or1 (pt_cmpR op_ne (pe_callB (cl_len (K := K)) (by rfl) B.len PySem.boot_len (pa_cons (pv 0) pa_nil)) (pe_callB (cl_len (K := K)) (by rfl) B.len PySem.boot_len (pa_cons (pv 1) pa_nil)) (nomark _))))) (pss_cons (ps_ret pe_bl) pss_nil) (pss_nil))
      (pss_cons (ps_for PassesOwn.never rfl (pi_list (pv 0)) (pg_name (i := 2) sc_l_are_pairs.nd rfl (.inl rfl)) (pss_cons (ps_if (PW.pt (pw_or (pt_not (pt_val (pe_callB (cl_isi (K := K)) (by rfl) B.isinstance (by decide +kernel) (pa_cons (pv 2) (pa_cons (pe_bltn (v := .ty "tuple") (by rfl) B.tuple (by decide +kernel) rfl) pa_nil))))) (pw_or (pt_cmpR op_ne (pe_callB (cl_len (K := K)) (by rfl) B.len PySem.boot_len (pa_cons (pv 2) pa_nil)) pe_int (nomark _)) (pw_or (pt_not (pt_val (pe_cc C_l_int hr (pa_cons (pe_ix (ix_t (K := K)) (pv 2) pe_int (fun _ _ => rfl)) pa_nil)))) (pw_or1 (pt_not (pt_val (pe_cc C_l_int hr (pa_cons (pe_ix (ix_t (K := K)) (pv 2) pe_int (fun _ _ => rfl)) pa_nil))))))))) (pss_cons (ps_ret pe_bl) pss_nil) (pss_nil))
      (pss_nil)))
      (pss_cons (ps_ret (pe_cmpR (op_eq_d hr.units) (pv 0) (pv 1) (nomark _))) pss_nil)), ?_⟩
    have c0 : Chg ([] : List Addr) H0 H0 := Chg.refl H0
    unfold Mi.m_l_are_pairs at hm
    refine q_if (ans_orB (ans_N (ans_B (val_isi (val_var rfl) (ty_lst r0) (n := "list") (m := "list") (b := true) (by decide +kernel)))) (fun _ => (ans_t (val_neI (val_lenL r0 (val_var rfl)) (val_lenL r1 (val_var rfl)))))) (fun hb => ?_) (fun hb => ?_)
    ·
      replace hm := Mi.ifT hb hm
      refine q_ret ?_
      refine c_val val_c ?_
      obtain rfl := Option.some.inj hm
      exact hQ _ c0 
    replace hm := Mi.ifF hb hm
    refine w_fall ?_
    refine q_for ?_
    refine w_iList ?_
    refine c_val (val_var rfl) ?_
    obtain ⟨e2, he2, hm⟩ := Mi.bnd hm
    refine l_lst r0 (fun i σ' H' => ∃ (s3 : Unit) (y4 : Option V), σ' = [some v0, some v1, y4] ∧ Chg ([] : List Addr) H0 H' ∧ (yLst (yTup (sCons yInt (sOne yInt)))).rep K H' F0 v0 d0 ∧ (yLst (yTup (sCons yInt (sOne yInt)))).rep K H' F1 v1 d1 ∧ Mi.forR (Mi.m_l_are_pairs_b1) s3 (List.drop i d0) = some e2) ⟨(), none, rfl, c0, r0, r1, he2⟩ (fun i σ' H' hp => by obtain ⟨s3, y4, rfl, c0, r0, r1, _⟩ := hp; exact r0) (fun i7 x6 u8 σ' H' hx5 r9 hp => ?_) (fun σ' H' hp => ?_)
    ·
      obtain ⟨s3, y4, rfl, c0, r0, r1, hle2⟩ := hp
      obtain ⟨o10, hbe2, hore2⟩ := Mi.forR_go hle2 hx5
      unfold Mi.m_l_are_pairs_b1 at hbe2
      refine g_name (σ' := [some v0, some v1, some u8]) rfl ?_
      refine q_ifS ?_
      obtain ⟨b11, hb11, hbe2⟩ := Mi.bnd hbe2
      refine j_tt b11 (R := fun H' => Chg ([] : List Addr) H0 H' ∧ (yLst (yTup (sCons yInt (sOne yInt)))).rep K H' F0 v0 d0 ∧ (yLst (yTup (sCons yInt (sOne yInt)))).rep K H' F1 v1 d1 ∧ (yTup (sCons yInt (sOne yInt))).rep K H' [] u8 x6) (fun Q' kq => ?_) (fun H' hj => ?_)
      ·
        refine w_or ?_
        refine c_ans (ans_N (ans_B (val_isi (val_var rfl) (ty_tup r9) (n := "tuple") (m := "tuple") (b := true) (by decide +kernel)))) ?_
        refine c_if (fun hb => ?_) (fun hb => ?_)
        ·
          replace hb11 := Mi.ifT hb hb11
          obtain rfl := Option.some.inj hb11
          exact kq _ ⟨c0, r0, r1, r9⟩
        replace hb11 := Mi.ifF hb hb11
        refine w_or ?_
        refine c_ans (ans_t (val_neI (val_lenU (n := 2) (lens_cons lens_one) r9 (val_var rfl)) val_c)) ?_
        refine c_if (fun hb => ?_) (fun hb => ?_)
        ·
          replace hb11 := Mi.ifT hb hb11
          obtain rfl := Option.some.inj hb11
          exact kq _ ⟨c0, r0, r1, r9⟩
        replace hb11 := Mi.ifF hb hb11
        refine w_or ?_
        refine w_not ?_
        refine w_B ?_
        refine w_call ?_
        obtain ⟨u12, F13, r14, su15, kx16, ku17⟩ := itm_tup (n := 0) at0 r9
        obtain ⟨rfl, rfl⟩ := r14
        refine w_args (va_cons (ku17 (val_var rfl) val_c) va_nil) ?_
        obtain ⟨q18, hq18, hb11⟩ := Mi.bnd hb11
        refine Or.inl ⟨x6.1, q18, rfl, hq18, fun H20 c19  => ?_⟩
        have r0 := Ty.ex r0 c19
        have r1 := Ty.ex r1 c19
        have r9 := Ty.fz r9 c19
        have c0 := c0.trans c19.none
        refine ⟨_, rfl, ?_⟩
        refine c_if (fun hb => ?_) (fun hb => ?_)
        ·
          replace hb11 := Mi.ifT hb hb11
          obtain rfl := Option.some.inj hb11
          exact kq _ ⟨c0, r0, r1, r9⟩
        replace hb11 := Mi.ifF hb hb11
        refine w_not ?_
        refine w_B ?_
        refine w_call ?_
        obtain ⟨u21, F22, r23, su24, kx25, ku26⟩ := itm_tup (n := 1) (atS at1) r9
        obtain ⟨rfl, rfl⟩ := r23
        refine w_args (va_cons (ku26 (val_var rfl) val_c) va_nil) ?_
        obtain ⟨q27, hq27, hb11⟩ := Mi.bnd hb11
        refine Or.inl ⟨x6.2, q27, rfl, hq27, fun H29 c28  => ?_⟩
        have r0 := Ty.ex r0 c28
        have r1 := Ty.ex r1 c28
        have r9 := Ty.fz r9 c28
        have c0 := c0.trans c28.none
        refine ⟨_, rfl, ?_⟩
        obtain rfl := Option.some.inj hb11
        exact kq _ ⟨c0, r0, r1, r9⟩
      obtain ⟨c0, r0, r1, r9⟩ := hj
      refine c_if (fun hb => ?_) (fun hb => ?_)
      ·
        replace hbe2 := Mi.ifT hb hbe2
        refine q_ret ?_
        refine c_val val_c ?_
        obtain rfl := Option.some.inj hbe2
        obtain rfl := Mi.or_inl hore2
        obtain rfl := Option.some.inj (Mi.orR_inl hm)
        exact hQ _ c0 
      replace hbe2 := Mi.ifF hb hbe2
      refine w_fall ?_
      refine w_nextJ ?_
      obtain rfl := Option.some.inj hbe2
      replace hore2 := Mi.or_inr hore2
      exact ⟨_, (some u8), rfl, c0, r0, r1, hore2⟩
    obtain ⟨s3, y4, rfl, c0, r0, r1, hle2⟩ := hp
    obtain rfl := Mi.forR_end hle2
    replace hm := Mi.orR_inr hm
    refine q_ret ?_
    refine w_op ?_
    refine c_val (val_var rfl) ?_
    refine c_val (val_var rfl) ?_
    refine w_eqD (τ := (yLst (yTup (sCons yInt (sOne yInt))))) (dat_lst (dat_tup (sat_cons dat_int (sat_one dat_int)))) r0 r1 ?_
    obtain rfl := Option.some.inj hm
    exact hQ _ c0 
abbrev s_l_is_number : Stmt := topS 27
abbrev N_l_is_number : List Str := ["_law_told", "_law_due"]
theorem sc_l_is_number : FnScope ["_law_told", "_law_due"] ["_law_told", "_law_due"] (defScope s_l_is_number) := ⟨rfl, rfl, rfl, by decide +kernel, rfl, by decide +kernel, by decide +kernel⟩
def sp_l_is_number (K : PySem.W.Frag) : Sp := fun vs H Q _ => ∃ (v0 : V) (d0 : (Option Int)) (v1 : V) (d1 : (Option Int)) (r : Bool), vs = [v0, v1] ∧ (yOpt yInt).rep K H [] v0 d0 ∧ (yOpt yInt).rep K H [] v1 d1 ∧ Mi.m_l_is_number d0 d1 = some r ∧ ∀ H', Chg ([]) H H' → Q (.bl r) H'
theorem ok_l_is_number (B : Bi mg) (CN : Cs mg) (D : Dfn K mg "_law_is_number" s_l_is_number) (C_l_int : Cal P w K mg "_law_int" ["_law_x"] 1 (sp_l_int K)) : Cal P w K mg "_law_is_number" ["_law_told", "_law_due"] 2 (sp_l_is_number K) := by
  obtain ⟨f, fd, F, g⟩ := D.ex
  refine ⟨f, fd, g, F.kp, bindsF F (fun _ _ _ _ _ _ us hl => match us, hl with | [_, _], _ => rfl), fun base => F.ok sc_l_is_number (fun vs H Q E h => ?_) (fun cdv A outer s H0 vs Q E hr h => ?_)⟩
  · obtain ⟨v0, d0, v1, d1, r, rfl, r0, r1, hm, hQ⟩ := h; rfl
  ·
    obtain ⟨v0, d0, v1, d1, r, rfl, r0, r1, hm, hQ⟩ := h
    refine ⟨_, pss_cons (ps_if (pt_cmpR op_isN1 (pv 1) pe_non (nomark _)) (pss_cons (ps_ret (pe_cmpR op_isN1 (pv 0) pe_non (nomark _))) pss_nil) (pss_nil))
      (pss_cons (ps_ret (pe_and (pe_cc C_l_int hr (pa_cons (pv 0) pa_nil)) (pe_one (pe_cmpR op_eq (pv 0) (pv 1) (nomark _))))) pss_nil), ?_⟩
    have c0 : Chg ([] : List Addr) H0 H0 := Chg.refl H0
    unfold Mi.m_l_is_number at hm
    refine q_if (ans_t (val_isN r1 (val_var rfl))) (fun hb => ?_) (fun hb => ?_)
    ·
      replace hm := Mi.ifT hb hm
      refine q_ret ?_
      refine c_val (val_isN r0 (val_var rfl)) ?_
      obtain rfl := Option.some.inj hm
      exact hQ _ c0 
    replace hm := Mi.ifF hb hm
    refine w_fall ?_
    refine q_ret ?_
    obtain ⟨b1, hb1, hm⟩ := Mi.bnd hm
    refine j_te (.bl b1) (R := fun H' => Chg ([] : List Addr) H0 H' ∧ (yOpt yInt).rep K H' [] v0 d0 ∧ (yOpt yInt).rep K H' [] v1 d1) (fun Q' kq => ?_) (fun H' hj => ?_)
    ·
      refine w_andV ?_
      refine w_call ?_
      refine w_args (va_cons (val_var rfl) va_nil) ?_
      obtain ⟨q2, hq2, hb1⟩ := Mi.bnd hb1
      refine Or.inr (⟨v0, d0, q2, rfl, r0, hq2, fun H4 c3  => ?_⟩)
      have r0 := Ty.fz r0 c3
      have r1 := Ty.fz r1 c3
      have c0 := c0.trans c3.none
      refine ⟨_, rfl, ?_⟩
      refine c_if (fun hb => ?_) (fun hb => ?_)
      rotate_left
      ·
        replace hb1 := Mi.ifF hb hb1
        obtain rfl := Option.some.inj hb1
        exact kq _ ⟨c0, r0, r1⟩
      replace hb1 := Mi.ifT hb hb1
      obtain ⟨x5, hx5, hb1⟩ := Mi.bnd hb1
      obtain ⟨_, rfl⟩ := opt_int r0 hx5
      obtain ⟨x6, hx6, hb1⟩ := Mi.bnd hb1
      obtain ⟨_, rfl⟩ := opt_int r1 hx6
      refine c_val (val_eqI (val_var rfl) (val_var rfl)) ?_
      obtain rfl := Option.some.inj hb1
      exact kq _ ⟨c0, r0, r1⟩
    obtain ⟨c0, r0, r1⟩ := hj
    obtain rfl := Option.some.inj hm
    exact hQ _ c0 
abbrev s_l_reads : Stmt := topS 28
abbrev N_l_reads : List Str := ["_law_handed", "_law_rows", "_law_word_here", "_law_due", "_law_told", "_law_light"]
theorem sc_l_reads : FnScope ["_law_handed", "_law_rows", "_law_word_here", "_law_due", "_law_told", "_law_light"] ["_law_handed", "_law_rows", "_law_word_here"] (defScope s_l_reads) := ⟨rfl, rfl, rfl, by decide +kernel, rfl, by decide +kernel, by decide +kernel⟩
def sp_l_reads (K : PySem.W.Frag) (C_Light : Addr) : Sp := fun vs H Q _ => ∃ (v0 : V) (F0 : List Addr) (d0 : (List (Int × (List Nat) × Int))) (v1 : V) (F1 : List Addr) (d1 : (List (List Nat))) (d2 : (List Nat)) (r : Bool), vs = [v0, v1, (.str (toS d2))] ∧ (yLst (yObj C_Light nm_Light ty_Light)).rep K H F0 v0 d0 ∧ (yLst yStr).rep K H F1 v1 d1 ∧ Mi.m_l_reads d0 d1 d2 = some r ∧ ∀ H', Chg ([]) H H' → Q (.bl r) H'
theorem ok_l_reads (B : Bi mg) (CN : Cs mg) (D : Dfn K mg "_law_reads" s_l_reads) {C_Light : Addr} (T_Light : Tx K mg C_Light "Light" nm_Light) (C_readings : Cal P w K mg "readings" ["lights", "word"] 2 (sp_readings K C_Light)) (C_certain_light : Cal P w K mg "certain_light" ["lights", "word"] 3 (sp_certain_light K C_Light)) (C_l_readings : Cal P w K mg "_law_readings" ["_law_rows", "_law_word_here"] 2 (sp_l_readings K)) (C_l_certain : Cal P w K mg "_law_certain" ["_law_found"] 1 (sp_l_certain K)) (C_l_are_pairs : Cal P w K mg "_law_are_pairs" ["_law_told", "_law_due"] 2 (sp_l_are_pairs K)) (C_l_is_number : Cal P w K mg "_law_is_number" ["_law_told", "_law_due"] 2 (sp_l_is_number K)) : Cal P w K mg "_law_reads" ["_law_handed", "_law_rows", "_law_word_here"] 4 (sp_l_reads K C_Light) := by
  obtain ⟨f, fd, F, g⟩ := D.ex
  refine ⟨f, fd, g, F.kp, bindsF F (fun _ _ _ _ _ _ us hl => match us, hl with | [_, _, _], _ => rfl), fun base => F.ok sc_l_reads (fun vs H Q E h => ?_) (fun cdv A outer s H0 vs Q E hr h => ?_)⟩
  · obtain ⟨v0, F0, d0, v1, F1, d1, d2, r, rfl, r0, r1, hm, hQ⟩ := h; rfl
  ·
    obtain ⟨v0, F0, d0, v1, F1, d1, d2, r, rfl, r0, r1, hm, hQ⟩ := h
    refine ⟨_, pss_cons (ps_set (i := 3) sc_l_reads.nd rfl (.inl rfl) (pe_cc C_l_readings hr (pa_cons (pv 1) (pa_cons (pv 2) pa_nil))))
      (pss_cons (ps_set (i := 4) sc_l_reads.nd rfl (.inl rfl) (pe_cc C_readings hr (pa_cons (pv 0) (pa_cons (pv 2) pa_nil))))
      (pss_cons (ps_if (PW.pt (pw_or (pt_not (pt_val (pe_cc C_l_are_pairs hr (pa_cons (pv 4) (pa_cons (pv 3) pa_nil))))) (pw_or1 (pt_not (pt_val (pe_cc C_l_is_number hr (pa_cons (pe_cc C_certain_light hr (pa_cons (pv 0) (pa_cons (pv 2) pa_nil))) (pa_cons (pe_cc C_l_certain hr (pa_cons (pv 3) pa_nil)) pa_nil)))))))) (pss_cons (ps_ret pe_bl) pss_nil) (pss_nil))
      (pss_cons (ps_expr (pe_bm PySem.F.plainAttrs_list PySem.F.slot_list_append PySem.F.type_list_append mt_append (pv 4) (pa_cons (pe_tup (pa_cons pe_int (pa_cons pe_int pa_nil))) pa_nil)))
      (pss_cons (ps_ret (pe_and (pe_cc C_l_are_pairs hr (pa_cons (pe_cc C_readings hr (pa_cons (pv 0) (pa_cons (pv 2) pa_nil))) (pa_cons (pv 3) pa_nil))) (pe_one (pe_cmpR (op_eq_d hr.units) (pe_lc (own := [("_law_light", 5)]) rfl sc_l_reads.nd (pi_list (pv 0)) (blkOk_by (own := [("_law_light", 5)]) (N := N_l_reads) (sc := defScope s_l_reads) (by decide +kernel)) (fun _ _ _ _ _ => (pg_name (i := 5) sc_l_reads.nd rfl (.inl rfl))) (fun _ _ _ _ _ => pts_nil) (fun _ _ _ _ _ => (pe_fldk (K := K) (pv 5) (by rfl)))) (pv 1) (nomark _))))) pss_nil)))), ?_⟩
    have c0 : Chg ([] : List Addr) H0 H0 := Chg.refl H0
    unfold Mi.m_l_reads at hm
    refine q_asg ?_
    refine w_call ?_
    refine w_args (va_cons (val_var rfl) (va_cons (val_var rfl) va_nil)) ?_
    obtain ⟨q1, hq1, hm⟩ := Mi.bnd hm
    refine ⟨v1, F1, d1, d2, q1, rfl, r1, hq1, fun v4 H3 F6 c2 r5 fr7  => ?_⟩
    have d8 : Dj F0 F6 := Ty.fresh r0 fr7
    have d9 : Dj F1 F6 := Ty.fresh r1 fr7
    have n10 : ∀ a ∈ F6, H0 a = none := fun a h => c0.dom a (fr7 a h)
    have r0 := Ty.ex r0 c2
    have r1 := Ty.ex r1 c2
    have c0 := c0.trans c2.none
    refine g_name (σ' := [some v0, some v1, some (.str (toS d2)), some v4, none, none]) rfl ?_
    refine q_asg ?_
    refine w_call ?_
    refine w_args (va_cons (val_var rfl) (va_cons (val_var rfl) va_nil)) ?_
    obtain ⟨q11, hq11, hm⟩ := Mi.bnd hm
    refine ⟨v0, F0, d0, d2, q11, rfl, r0, hq11, fun v14 H13 F16 c12 r15 fr17  => ?_⟩
    have d18 : Dj F0 F16 := Ty.fresh r0 fr17
    have d19 : Dj F1 F16 := Ty.fresh r1 fr17
    have d20 : Dj F6 F16 := Ty.fresh r5 fr17
    have n21 : ∀ a ∈ F16, H0 a = none := fun a h => c0.dom a (fr17 a h)
    have r0 := Ty.ex r0 c12
    have r1 := Ty.ex r1 c12
    have r5 := Ty.ex r5 c12
    have c0 := c0.trans c12.none
    refine g_name (σ' := [some v0, some v1, some (.str (toS d2)), some v4, some v14, none]) rfl ?_
    refine q_ifS ?_
    obtain ⟨b22, hb22, hm⟩ := Mi.bnd hm
    refine j_tt b22 (R := fun H' => Chg ([] : List Addr) H0 H' ∧ (yLst (yObj C_Light nm_Light ty_Light)).rep K H' F0 v0 d0 ∧ (yLst yStr).rep K H' F1 v1 d1 ∧ (yLst (yTup (sCons yInt (sOne yInt)))).rep K H' F6 v4 q1 ∧ (yLst (yTup (sCons yInt (sOne yInt)))).rep K H' F16 v14 q11) (fun Q' kq => ?_) (fun H' hj => ?_)
    ·
      refine w_or ?_
      refine w_not ?_
      refine w_B ?_
      refine w_call ?_
      refine w_args (va_cons (val_var rfl) (va_cons (val_var rfl) va_nil)) ?_
      obtain ⟨q23, hq23, hb22⟩ := Mi.bnd hb22
      refine ⟨v14, F16, q11, v4, F6, q1, q23, rfl, r15, r5, hq23, fun H25 c24  => ?_⟩
      have r0 := Ty.ex r0 c24
      have r1 := Ty.ex r1 c24
      have r5 := Ty.ex r5 c24
      have r15 := Ty.ex r15 c24
      have c0 := c0.trans c24.none
      refine ⟨_, rfl, ?_⟩
      refine c_if (fun hb => ?_) (fun hb => ?_)
      ·
        replace hb22 := Mi.ifT hb hb22
        obtain rfl := Option.some.inj hb22
        exact kq _ ⟨c0, r0, r1, r5, r15⟩
      replace hb22 := Mi.ifF hb hb22
      refine w_not ?_
      refine w_B ?_
      refine w_call ?_
      refine w_cons ?_
      refine w_call ?_
      refine w_args (va_cons (val_var rfl) (va_cons (val_var rfl) va_nil)) ?_
      obtain ⟨q26, hq26, hb22⟩ := Mi.bnd hb22
      refine ⟨v0, F0, d0, d2, q26, rfl, r0, hq26, fun v29 H28 c27 r30  => ?_⟩
      have r0 := Ty.ex r0 c27
      have r1 := Ty.ex r1 c27
      have r5 := Ty.ex r5 c27
      have r15 := Ty.ex r15 c27
      have c0 := c0.trans c27.none
      refine w_cons ?_
      refine w_call ?_
      refine w_args (va_cons (val_var rfl) va_nil) ?_
      obtain ⟨q31, hq31, hb22⟩ := Mi.bnd hb22
      refine ⟨v4, F6, q1, q31, rfl, r5, hq31, fun v34 H33 c32 r35  => ?_⟩
      have r0 := Ty.ex r0 c32
      have r1 := Ty.ex r1 c32
      have r5 := Ty.ex r5 c32
      have r15 := Ty.ex r15 c32
      have r30 := Ty.fz r30 c32
      have c0 := c0.trans c32.none
      refine w_nil ?_
      obtain ⟨q36, hq36, hb22⟩ := Mi.bnd hb22
      refine ⟨v29, q26, v34, q31, q36, rfl, r30, r35, hq36, fun H38 c37  => ?_⟩
      have r0 := Ty.ex r0 c37
      have r1 := Ty.ex r1 c37
      have r5 := Ty.ex r5 c37
      have r15 := Ty.ex r15 c37
      have c0 := c0.trans c37.none
      refine ⟨_, rfl, ?_⟩
      obtain rfl := Option.some.inj hb22
      exact kq _ ⟨c0, r0, r1, r5, r15⟩
    obtain ⟨c0, r0, r1, r5, r15⟩ := hj
    refine c_if (fun hb => ?_) (fun hb => ?_)
    ·
      replace hm := Mi.ifT hb hm
      refine q_ret ?_
      refine c_val val_c ?_
      obtain rfl := Option.some.inj hm
      exact hQ _ c0 
    replace hm := Mi.ifF hb hm
    refine w_fall ?_
    refine q_drop (w_bm (c_val (val_var rfl) ⟨tyv_lst r15, ?_⟩))
    refine w_cons ?_
    refine w_tup ?_
    refine w_args (va_cons val_c (va_cons val_c va_nil)) ?_
    refine e_tup (K := K) (ty := (sCons yInt (sOne yInt))) (F := []) (d := ((99 : Int), (99 : Int))) (by exact Nat.le_of_ble_eq_true rfl) ⟨_, _, _, _, rfl, rfl, yInt_i, ⟨_, rfl, yInt_i⟩⟩ fun p39 H43 np42 c40 r41 => ?_
    have r0 := Ty.ex r0 c40
    have r1 := Ty.ex r1 c40
    have r5 := Ty.ex r5 c40
    have r15 := Ty.ex r15 c40
    have c0 := c0.trans c40.none
    refine w_nil ?_
    obtain ⟨x44, hx44, hm⟩ := Mi.bnd hm
    refine m_app r15 r41 hx44 fun H46 c45 r15 => ?_
    have r0 := Ty.chg r0 c45 d18
    have r1 := Ty.chg r1 c45 d19
    have r5 := Ty.chg r5 c45 d20
    have c0 := c0.join c45 (fun a h => .inr (n21 a h))
    refine q_ret ?_
    obtain ⟨b47, hb47, hm⟩ := Mi.bnd hm
    refine j_te (.bl b47) (R := fun H' => Chg ([] : List Addr) H0 H' ∧ (yLst (yObj C_Light nm_Light ty_Light)).rep K H' F0 v0 d0 ∧ (yLst yStr).rep K H' F1 v1 d1 ∧ (yLst (yTup (sCons yInt (sOne yInt)))).rep K H' F6 v4 q1 ∧ (yLst (yTup (sCons yInt (sOne yInt)))).rep K H' F16 v14 x44) (fun Q' kq => ?_) (fun H' hj => ?_)
    ·
      refine w_andV ?_
      refine w_call ?_
      refine w_cons ?_
      refine w_call ?_
      refine w_args (va_cons (val_var rfl) (va_cons (val_var rfl) va_nil)) ?_
      obtain ⟨q48, hq48, hb47⟩ := Mi.bnd hb47
      refine ⟨v0, F0, d0, d2, q48, rfl, r0, hq48, fun v51 H50 F53 c49 r52 fr54  => ?_⟩
      have d55 : Dj F0 F53 := Ty.fresh r0 fr54
      have d56 : Dj F1 F53 := Ty.fresh r1 fr54
      have d57 : Dj F6 F53 := Ty.fresh r5 fr54
      have d58 : Dj F16 F53 := Ty.fresh r15 fr54
      have n59 : ∀ a ∈ F53, H0 a = none := fun a h => c0.dom a (fr54 a h)
      have r0 := Ty.ex r0 c49
      have r1 := Ty.ex r1 c49
      have r5 := Ty.ex r5 c49
      have r15 := Ty.ex r15 c49
      have c0 := c0.trans c49.none
      refine w_cons ?_
      refine c_val (val_var rfl) ?_
      refine w_nil ?_
      obtain ⟨q60, hq60, hb47⟩ := Mi.bnd hb47
      refine ⟨v51, F53, q48, v4, F6, q1, q60, rfl, r52, r5, hq60, fun H62 c61  => ?_⟩
      have r0 := Ty.ex r0 c61
      have r1 := Ty.ex r1 c61
      have r5 := Ty.ex r5 c61
      have r15 := Ty.ex r15 c61
      have c0 := c0.trans c61.none
      refine ⟨_, rfl, ?_⟩
      refine c_if (fun hb => ?_) (fun hb => ?_)
      rotate_left
      ·
        replace hb47 := Mi.ifF hb hb47
        obtain rfl := Option.some.inj hb47
        exact kq _ ⟨c0, r0, r1, r5, r15⟩
      replace hb47 := Mi.ifT hb hb47
      refine w_op ?_
      refine w_lc ?_
      refine w_iList ?_
      refine c_val (val_var rfl) ?_
      obtain ⟨e63, he63, hb47⟩ := Mi.bnd hb47
      refine kc_lst (K := K) (τ := yStr) r0 (fun D65 i H' => ∃ (s64 : (List (List Nat))), Chg ([] : List Addr) H0 H' ∧ (yLst (yObj C_Light nm_Light ty_Light)).rep K H' F0 v0 d0 ∧ (yLst yStr).rep K H' F1 v1 d1 ∧ (yLst (yTup (sCons yInt (sOne yInt)))).rep K H' F6 v4 q1 ∧ (yLst (yTup (sCons yInt (sOne yInt)))).rep K H' F16 v14 x44 ∧ (yLst yStr).rep K H' [D65] (.ref D65) s64 ∧ Dj F0 [D65] ∧ Dj F1 [D65] ∧ Dj F6 [D65] ∧ Dj F16 [D65] ∧ (∀ a ∈ [D65], H0 a = none) ∧ Mi.forN (Mi.m_l_reads_b1) s64 (List.drop i d0) = some e63) (fun D65 H74 np73 c72 r66 => ⟨([] : (List (List Nat))), c0.trans c72.none, (Ty.ex r0 c72), (Ty.ex r1 c72), (Ty.ex r5 c72), (Ty.ex r15 c72), r66, Ty.nin r0 np73, Ty.nin r1 np73, Ty.nin r5 np73, Ty.nin r15 np73, one_fresh (c0.dom D65 np73), he63⟩) (fun D65 i H' hp => by obtain ⟨s64, c0, r0, r1, r5, r15, r66, d67, d68, d69, d70, n71, _⟩ := hp; exact r0) (fun D65 i77 x76 u79 H78 hx75 r80 hp => ?_) (fun D65 H' np73 hp => ?_)
      ·
        obtain ⟨s64, c0, r0, r1, r5, r15, r66, d67, d68, d69, d70, n71, hle63⟩ := hp
        obtain ⟨_, hbe63, hle63⟩ := Mi.forN_go hle63 hx75
        unfold Mi.m_l_reads_b1 at hbe63
        refine g_name (σ' := [some v0, some v1, some (.str (toS d2)), some v4, some v14, some u79]) rfl ?_
        refine ⟨rfl, ?_⟩
        refine w_yes ?_
        refine iteT ?_
        obtain ⟨u83, r84, kx85, ku86⟩ := fld_obj (n := 1) (f := "pattern") (atS at0) (by decide +kernel) rfl T_Light.cls (T_Light.na "pattern" (by decide +kernel)) r80
        obtain ⟨_, rfl⟩ := r84
        refine c_val (ku86 (val_var rfl)) ?_
        obtain ⟨x87, hx87, hbe63⟩ := Mi.bnd hbe63
        refine e_app r66 yStr_i hx87 fun H89 c88 r66 => ?_
        have r0 := Ty.chg r0 c88 d67
        have r1 := Ty.chg r1 c88 d68
        have r5 := Ty.chg r5 c88 d69
        have r15 := Ty.chg r15 c88 d70
        have r80 := Ty.fz r80 c88
        have c0 := c0.join c88 (fun a h => .inr (n71 a h))
        obtain rfl := Option.some.inj hbe63
        exact ⟨_, c0, r0, r1, r5, r15, r66, d67, d68, d69, d70, n71, hle63⟩
      obtain ⟨s64, c0, r0, r1, r5, r15, r66, d67, d68, d69, d70, n71, hle63⟩ := hp
      obtain rfl := Mi.forN_end hle63
      refine c_val (val_var rfl) ?_
      obtain ⟨z92, hz92, hb47⟩ := Mi.bnd hb47
      refine w_eqO (τ := (yLst yStr)) (dao_lst dao_str) r66 r1 hz92 ?_
      obtain rfl := Option.some.inj hb47
      exact kq _ ⟨c0, r0, r1, r5, r15⟩
    obtain ⟨c0, r0, r1, r5, r15⟩ := hj
    obtain rfl := Option.some.inj hm
    exact hQ _ c0 
abbrev s_law : Stmt := topS 29
abbrev N_law : List Str := ["_law_script", "_law_hand_here", "_law_rows", "_law_handed", "_law_words", "_law_word_here", "_law_spot", "_law_pattern_here"]
theorem sc_law : FnScope ["_law_script", "_law_hand_here", "_law_rows", "_law_handed", "_law_words", "_law_word_here", "_law_spot", "_law_pattern_here"] ["_law_script"] (defScope s_law) := ⟨rfl, rfl, rfl, by decide +kernel, rfl, by decide +kernel, by decide +kernel⟩
def sp_law (K : PySem.W.Frag) : Sp := fun vs H Q _ => ∃ (v0 : V) (d0 : (List Int)) (r : Bool), vs = [v0] ∧ yScr.rep K H [] v0 d0 ∧ Mi.m_law d0 = some r ∧ ∀ H', Chg ([]) H H' → Q (.bl r) H'
theorem ok_law (B : Bi mg) (CN : Cs mg) (D : Dfn K mg "law" s_law) {C_Light : Addr} (T_Light : Tx K mg C_Light "Light" nm_Light) (I_Light : CalI P w K mg C_Light "Light.__init__" s_Light_init kw_Light ["self", "place", "pattern", "reach"] 2 (sp_Light_init K C_Light)) (C_l_hand : Cal P w K mg "_law_hand" ["_law_script", "_law_k"] 1 (sp_l_hand K)) (C_l_pick : Cal P w K mg "_law_pick" ["_law_hand_here", "_law_size"] 1 (sp_l_pick K)) (C_l_patterns : Cal P w K mg "_law_patterns" ["_law_hand_here", "_law_count"] 3 (sp_l_patterns K)) (C_l_word : Cal P w K mg "_law_word" ["_law_hand_here", "_law_rows"] 2 (sp_l_word K)) (C_l_reads : Cal P w K mg "_law_reads" ["_law_handed", "_law_rows", "_law_word_here"] 4 (sp_l_reads K C_Light)) : Cal P w K mg "law" ["_law_script"] 5 (sp_law K) := by
  obtain ⟨f, fd, F, g⟩ := D.ex
  refine ⟨f, fd, g, F.kp, bindsF F (fun _ _ _ _ _ _ us hl => match us, hl with | [_], _ => rfl), fun base => F.ok sc_law (fun vs H Q E h => ?_) (fun cdv A outer s H0 vs Q E hr h => ?_)⟩
  · obtain ⟨v0, d0, r, rfl, r0, hm, hQ⟩ := h; rfl
  ·
    obtain ⟨v0, d0, r, rfl, r0, hm, hQ⟩ := h
    obtain ⟨fI_Light, fdI_Light, MI_Light, FI_Light, OI_Light⟩ := I_Light.ex
    obtain ⟨mv_kb_Light_2_reach, kb_Light_2_reach⟩ := FunD.kbinds0 (ps := ["self", "place", "pattern", "reach"]) FI_Light 3 ["reach"] [] (fun us _ ws => us ++ ws) (by intro z; cases z) (fun q hq => nomatch hq) (fun r1 _ r3 => Vals.append r1 r3) (fun _ _ _ _ _ _ us mv ws h1 h2 h3 => match us, mv, ws, h1, h2, h3 with | [_, _, _], [], [_], _, _, _ => rfl)
    refine ⟨_, pss_cons (ps_set (i := 1) sc_law.nd rfl (.inr rfl) (pe_cc C_l_hand hr (pa_cons (pv 0) (pa_cons pe_int pa_nil))))
      (pss_cons (ps_set (i := 2) sc_law.nd rfl (.inl rfl) (pe_cc C_l_patterns hr (pa_cons (pv 1) (pa_cons (pe_cc C_l_pick hr (pa_cons (pv 1) (pa_cons pe_int pa_nil))) pa_nil))))
      (pss_cons (ps_set (i := 1) sc_law.nd rfl (.inr rfl) (pe_cc C_l_hand hr (pa_cons (pv 0) (pa_cons pe_int pa_nil))))
      (pss_cons (ps_setLc (i := 3) (own := [("_law_pattern_here", 7)]) rfl sc_law.nd rfl rfl (sw_true rfl rfl rfl (by decide +kernel)) (pi_list (pv 2)) (blkOk_by (own := [("_law_pattern_here", 7)]) (N := N_law) (sc := defScope s_law) (by decide +kernel)) (fun _ _ _ _ _ => (pg_name (i := 7) sc_law.nd rfl (.inl rfl))) (fun _ _ _ _ _ => pts_nil) (fun _ _ _ _ _ => (pe_makeK MI_Light (OI_Light base) (hr.mono (by decide)) (by rfl) T_Light.mgC kb_Light_2_reach pass0 (pa_cons (pe_cc C_l_pick hr (pa_cons (pv 1) (pa_cons pe_int pa_nil))) (pa_cons (pv 7) pa_nil)) (pk_cons (pe_cc C_l_pick hr (pa_cons (pv 1) (pa_cons pe_int pa_nil))) pk_nil))))
      (pss_cons (ps_set (i := 1) sc_law.nd rfl (.inr rfl) (pe_cc C_l_hand hr (pa_cons (pv 0) (pa_cons pe_int pa_nil))))
      (pss_cons (ps_set (i := 4) sc_law.nd rfl (.inl rfl) (pe_lst (pa_cons (pe_cc C_l_word hr (pa_cons (pv 1) (pa_cons (pv 2) pa_nil))) (pa_cons (pe_cc C_l_word hr (pa_cons (pv 1) (pa_cons (pv 2) pa_nil))) pa_nil))))
      (pss_cons (ps_for PassesOwn.never rfl (pi_list (pe_lst (pa_cons (pe_ix (ix_l (K := K)) (pv 4) pe_int (fun _ _ => rfl)) (pa_cons (pe_ix (ix_l (K := K)) (pv 4) pe_int (fun _ _ => rfl)) (pa_cons (pe_ix (ix_l (K := K)) (pv 4) pe_int (fun _ _ => rfl)) pa_nil))))) (pg_name (i := 5) sc_law.nd rfl (.inl rfl)) (pss_cons (ps_if (pt_not (pt_val (pe_cc C_l_reads hr (pa_cons (pv 3) (pa_cons (pv 2) (pa_cons (pv 5) pa_nil)))))) (pss_cons (ps_ret pe_bl) pss_nil) (pss_nil))
      (pss_nil)))
      (pss_cons (ps_if (pt_cmpR op_gt (pe_callB (cl_len (K := K)) (by rfl) B.len PySem.boot_len (pa_cons (pv 2) pa_nil)) pe_int (nomark _)) (pss_cons (ps_set (i := 6) sc_law.nd rfl (.inl rfl) (pe_cc C_l_pick hr (pa_cons (pv 1) (pa_cons (pe_callB (cl_len (K := K)) (by rfl) B.len PySem.boot_len (pa_cons (pv 2) pa_nil)) pa_nil))))
      (pss_cons (ps_expr (pe_bm PySem.F.plainAttrs_list PySem.F.slot_list_pop PySem.F.type_list_pop mt_popAt (pv 2) (pa_cons (pv 6) pa_nil)))
      (pss_cons (ps_expr (pe_bm PySem.F.plainAttrs_list PySem.F.slot_list_pop PySem.F.type_list_pop mt_popAt (pv 3) (pa_cons (pv 6) pa_nil)))
      (pss_nil)))) (pss_nil))
      (pss_cons (ps_if (PW.pt (pw_or (pt_not (pt_val (pe_cc C_l_reads hr (pa_cons (pv 3) (pa_cons (pv 2) (pa_cons (pe_ix (ix_l (K := K)) (pv 4) pe_int (fun _ _ => rfl)) pa_nil)))))) (pw_or1 (pt_not (pt_val (pe_cc C_l_reads hr (pa_cons (pv 3) (pa_cons (pv 2) (pa_cons (pe_ix (ix_l (K := K)) (pv 4) pe_int (fun _ _ => rfl)) pa_nil))))))))) (pss_cons (ps_ret pe_bl) pss_nil) (pss_nil))
      (pss_cons (ps_if (pt_cmpR op_gt (pe_callB (cl_len (K := K)) (by rfl) B.len PySem.boot_len (pa_cons (pv 2) pa_nil)) pe_int (nomark _)) (pss_cons (ps_set (i := 6) sc_law.nd rfl (.inl rfl) (pe_cc C_l_pick hr (pa_cons (pv 1) (pa_cons (pe_callB (cl_len (K := K)) (by rfl) B.len PySem.boot_len (pa_cons (pv 2) pa_nil)) pa_nil))))
      (pss_cons (ps_expr (pe_bm PySem.F.plainAttrs_list PySem.F.slot_list_append PySem.F.type_list_append mt_append (pv 2) (pa_cons (pe_ix (ix_l (K := K)) (pv 2) (pv 6) (fun _ _ => rfl)) pa_nil)))
      (pss_cons (ps_expr (pe_bm PySem.F.plainAttrs_list PySem.F.slot_list_append PySem.F.type_list_append mt_append (pv 3) (pa_cons (pe_ix (ix_l (K := K)) (pv 3) (pv 6) (fun _ _ => rfl)) pa_nil)))
      (pss_nil)))) (pss_nil))
      (pss_cons (ps_ret (pe_and (pe_cc C_l_reads hr (pa_cons (pv 3) (pa_cons (pv 2) (pa_cons (pe_ix (ix_l (K := K)) (pv 4) pe_int (fun _ _ => rfl)) pa_nil)))) (pe_one (pe_cc C_l_reads hr (pa_cons (pv 3) (pa_cons (pv 2) (pa_cons (pe_ix (ix_l (K := K)) (pv 4) pe_int (fun _ _ => rfl)) pa_nil))))))) pss_nil)))))))))), ?_⟩
    have c0 : Chg ([] : List Addr) H0 H0 := Chg.refl H0
    unfold Mi.m_law at hm
    refine q_asg ?_
    refine w_call ?_
    refine w_args (va_cons (val_var rfl) (va_cons val_c va_nil)) ?_
    obtain ⟨q1, hq1, hm⟩ := Mi.bnd hm
    refine ⟨v0, d0, (0 : Int), q1, rfl, r0, hq1, fun v4 H3 F6 c2 r5 fr7  => ?_⟩
    have n8 : ∀ a ∈ F6, H0 a = none := fun a h => c0.dom a (fr7 a h)
    have r0 := Ty.fz r0 c2
    have c0 := c0.trans c2.none
    refine g_name (σ' := [some v0, some v4, none, none, none, none, none, none]) rfl ?_
    refine q_asg ?_
    refine w_call ?_
    refine w_cons ?_
    refine c_val (val_var rfl) ?_
    refine w_cons ?_
    refine w_call ?_
    refine w_args (va_cons (val_var rfl) (va_cons val_c va_nil)) ?_
    obtain ⟨q9, hq9, hm⟩ := Mi.bnd hm
    refine ⟨v4, F6, q1, (9 : Int), q9, rfl, r5, hq9, fun H11 c10 r5 => ?_⟩
    have r0 := Ty.fz r0 c10
    have c0 := c0.join c10 (fun a h => .inr (n8 a h))
    refine w_nil ?_
    obtain ⟨q12, hq12, hm⟩ := Mi.bnd hm
    have r5_old := r5
    refine ⟨v4, F6, q9.2, q9.1, q12, rfl, r5, hq12, fun v15 H14 F17 c13 r16 fr18 r5 => ?_⟩
    have d19 : Dj F6 F17 := Ty.fresh r5_old fr18
    have n20 : ∀ a ∈ F17, H0 a = none := fun a h => c0.dom a (fr18 a h)
    have r0 := Ty.fz r0 c13
    have c0 := c0.join c13 (fun a h => .inr (n8 a h))
    refine g_name (σ' := [some v0, some v4, some v15, none, none, none, none, none]) rfl ?_
    refine q_asg ?_
    refine w_call ?_
    refine w_args (va_cons (val_var rfl) (va_cons val_c va_nil)) ?_
    obtain ⟨q21, hq21, hm⟩ := Mi.bnd hm
    refine ⟨v0, d0, (1 : Int), q21, rfl, r0, hq21, fun v24 H23 F26 c22 r25 fr27  => ?_⟩
    have d28 : Dj F6 F26 := Ty.fresh r5 fr27
    have d29 : Dj F17 F26 := Ty.fresh r16 fr27
    have n30 : ∀ a ∈ F26, H0 a = none := fun a h => c0.dom a (fr27 a h)
    have r0 := Ty.fz r0 c22
    have r5 := Ty.ex r5 c22
    have r16 := Ty.ex r16 c22
    have c0 := c0.trans c22.none
    refine g_name (σ' := [some v0, some v24, some v15, none, none, none, none, none]) rfl ?_
    refine q_asg ?_
    refine w_lc ?_
    refine w_iList ?_
    refine c_val (val_var rfl) ?_
    obtain ⟨e31, he31, hm⟩ := Mi.bnd hm
    refine kc_lst (K := K) (τ := (yObj C_Light nm_Light ty_Light)) r16 (fun D33 i H' => ∃ (s32 : ((List (Int × (List Nat) × Int)) × (List Int))), Chg ([] : List Addr) H0 H' ∧ yScr.rep K H' [] v0 d0 ∧ (yLst yInt).rep K H' F26 v24 s32.2 ∧ (yLst yStr).rep K H' F17 v15 q12.1 ∧ (yLst (yObj C_Light nm_Light ty_Light)).rep K H' [D33] (.ref D33) s32.1 ∧ Dj F26 [D33] ∧ Dj F17 [D33] ∧ (∀ a ∈ [D33], H0 a = none) ∧ Mi.forN (Mi.m_law_b1) s32 (List.drop i q12.1) = some e31) (fun D33 H40 np39 c38 r34 => ⟨(([] : (List (Int × (List Nat) × Int))), q21), c0.trans c38.none, (Ty.fz r0 c38), (Ty.ex r25 c38), (Ty.ex r16 c38), r34, Ty.nin r25 np39, Ty.nin r16 np39, one_fresh (c0.dom D33 np39), he31⟩) (fun D33 i H' hp => by obtain ⟨s32, c0, r0, r25, r16, r34, d35, d36, n37, _⟩ := hp; exact r16) (fun D33 i43 x42 u45 H44 hx41 r46 hp => ?_) (fun D33 H' np39 hp => ?_)
    ·
      obtain ⟨s32, c0, r0, r25, r16, r34, d35, d36, n37, hle31⟩ := hp
      obtain ⟨_, hbe31, hle31⟩ := Mi.forN_go hle31 hx41
      unfold Mi.m_law_b1 at hbe31
      obtain ⟨_, rfl⟩ := r46
      refine g_name (σ' := [some v0, some v24, some v15, none, none, none, none, some (.str (toS x42))]) rfl ?_
      refine ⟨rfl, ?_⟩
      refine w_yes ?_
      refine iteT ?_
      refine w_makeK ?_
      refine w_cons ?_
      refine w_call ?_
      refine w_args (va_cons (val_var rfl) (va_cons val_c va_nil)) ?_
      obtain ⟨q49, hq49, hbe31⟩ := Mi.bnd hbe31
      refine ⟨v24, F26, s32.2, (12 : Int), q49, rfl, r25, hq49, fun H51 c50 r25 => ?_⟩
      have r0 := Ty.fz r0 c50
      have r16 := Ty.chg r16 c50 d29
      have r34 := Ty.chg r34 c50 d35.symm
      have c0 := c0.join c50 (fun a h => .inr (n30 a h))
      refine w_cons ?_
      refine c_val (val_var rfl) ?_
      refine w_nil ?_
      refine w_cons ?_
      refine w_call ?_
      refine w_args (va_cons (val_var rfl) (va_cons val_c va_nil)) ?_
      obtain ⟨q52, hq52, hbe31⟩ := Mi.bnd hbe31
      refine ⟨v24, F26, q49.2, (4 : Int), q52, rfl, r25, hq52, fun H54 c53 r25 => ?_⟩
      have r0 := Ty.fz r0 c53
      have r16 := Ty.chg r16 c53 d29
      have r34 := Ty.chg r34 c53 d35.symm
      have c0 := c0.join c53 (fun a h => .inr (n30 a h))
      refine w_nil ?_
      refine ⟨rfl, rfl, ?_⟩
      intro p55 dx56 nx57 ndx58 nex59
      have d60 : Dj F26 [p55] := Ty.nin r25 nx57
      have d61 : Dj F17 [p55] := Ty.nin r16 nx57
      have d62 : Dj [D33] [p55] := Ty.nin r34 nx57
      have n63 : ∀ a ∈ [p55], H0 a = none := one_fresh (c0.dom p55 nx57)
      obtain ⟨c64, r65⟩ := make_new (K := K) (C := C_Light) nx57 ndx58 nex59
      have r0 := Ty.fz r0 c64
      have r25 := Ty.ex r25 c64
      have r16 := Ty.ex r16 c64
      have r34 := Ty.ex r34 c64
      have c0 := c0.trans c64.none
      obtain ⟨q66, hq66, hbe31⟩ := Mi.bnd hbe31
      refine ⟨p55, dx56, q49.1, x42, q52.1, q66, rfl, r65, hq66, fun H68 c67 r69 => ⟨rfl, ?_⟩⟩
      have r0 := Ty.fz r0 c67
      have r25 := Ty.chg r25 c67 d60
      have r16 := Ty.chg r16 c67 d61
      have r34 := Ty.chg r34 c67 d62
      have c0 := c0.join c67 (fun a h => .inr (n63 a h))
      obtain ⟨x70, hx70, hbe31⟩ := Mi.bnd hbe31
      refine e_app r34 r69 hx70 fun H72 c71 r34 => ?_
      have r0 := Ty.fz r0 c71
      have r25 := Ty.chg r25 c71 d35
      have r16 := Ty.chg r16 c71 d36
      have c0 := c0.join c71 (fun a h => .inr (n37 a h))
      obtain rfl := Option.some.inj hbe31
      exact ⟨_, c0, r0, r25, r16, r34, d35, d36, n37, hle31⟩
    obtain ⟨s32, c0, r0, r25, r16, r34, d35, d36, n37, hle31⟩ := hp
    obtain rfl := Mi.forN_end hle31
    refine g_name (σ' := [some v0, some v24, some v15, some (.ref D33), none, none, none, none]) rfl ?_
    refine q_asg ?_
    refine w_call ?_
    refine w_args (va_cons (val_var rfl) (va_cons val_c va_nil)) ?_
    obtain ⟨q73, hq73, hm⟩ := Mi.bnd hm
    refine ⟨v0, d0, (2 : Int), q73, rfl, r0, hq73, fun v76 H75 F78 c74 r77 fr79  => ?_⟩
    have d80 : Dj F26 F78 := Ty.fresh r25 fr79
    have d81 : Dj F17 F78 := Ty.fresh r16 fr79
    have d82 : Dj [D33] F78 := Ty.fresh r34 fr79
    have n83 : ∀ a ∈ F78, H0 a = none := fun a h => c0.dom a (fr79 a h)
    have r0 := Ty.fz r0 c74
    have r25 := Ty.ex r25 c74
    have r16 := Ty.ex r16 c74
    have r34 := Ty.ex r34 c74
    have c0 := c0.trans c74.none
    refine g_name (σ' := [some v0, some v76, some v15, some (.ref D33), none, none, none, none]) rfl ?_
    refine q_asg ?_
    refine w_lst ?_
    refine w_cons ?_
    refine w_call ?_
    refine w_args (va_cons (val_var rfl) (va_cons (val_var rfl) va_nil)) ?_
    obtain ⟨q84, hq84, hm⟩ := Mi.bnd hm
    refine ⟨v76, F78, q73, v15, F17, q12.1, q84, rfl, r77, r16, d81.symm, hq84, fun H86 c85 r77 => ?_⟩
    have r0 := Ty.fz r0 c85
    have r16 := Ty.chg r16 c85 d81
    have r34 := Ty.chg r34 c85 d82
    have c0 := c0.join c85 (fun a h => .inr (n83 a h))
    refine w_cons ?_
    refine w_call ?_
    refine w_args (va_cons (val_var rfl) (va_cons (val_var rfl) va_nil)) ?_
    obtain ⟨q87, hq87, hm⟩ := Mi.bnd hm
    refine ⟨v76, F78, q84.2, v15, F17, q12.1, q87, rfl, r77, r16, d81.symm, hq87, fun H89 c88 r77 => ?_⟩
    have r0 := Ty.fz r0 c88
    have r16 := Ty.chg r16 c88 d81
    have r34 := Ty.chg r34 c88 d82
    have c0 := c0.join c88 (fun a h => .inr (n83 a h))
    refine w_nil ?_
    refine e_lst (K := K) (τ := yStr) (by exact Nat.le_of_ble_eq_true rfl) (.cons yStr_i (.cons yStr_i .nil)) fun p90 H94 np93 c91 r92 => ?_
    have d95 : Dj F78 [p90] := Ty.nin r77 np93
    have d96 : Dj F17 [p90] := Ty.nin r16 np93
    have d97 : Dj [D33] [p90] := Ty.nin r34 np93
    have n98 : ∀ a ∈ [p90], H0 a = none := one_fresh (c0.dom p90 np93)
    have r0 := Ty.fz r0 c91
    have r77 := Ty.ex r77 c91
    have r16 := Ty.ex r16 c91
    have r34 := Ty.ex r34 c91
    have c0 := c0.trans c91.none
    refine g_name (σ' := [some v0, some v76, some v15, some (.ref D33), some (.ref p90), none, none, none]) rfl ?_
    refine q_for ?_
    refine w_iList ?_
    refine w_lst ?_
    obtain ⟨x99, hx99, hm⟩ := Mi.bnd hm
    obtain ⟨u100, r101, ku102⟩ := itm_L r92 hx99
    obtain ⟨_, rfl⟩ := r101
    obtain ⟨x103, hx103, hm⟩ := Mi.bnd hm
    obtain ⟨u104, r105, ku106⟩ := itm_L r92 hx103
    obtain ⟨_, rfl⟩ := r105
    obtain ⟨x107, hx107, hm⟩ := Mi.bnd hm
    obtain ⟨u108, r109, ku110⟩ := itm_L r92 hx107
    obtain ⟨_, rfl⟩ := r109
    refine w_args (va_cons (ku102 (val_var rfl) val_c) (va_cons (ku106 (val_var rfl) val_c) (va_cons (ku110 (val_var rfl) val_c) va_nil))) ?_
    refine e_lst (K := K) (τ := yStr) (by exact Nat.le_of_ble_eq_true rfl) (.cons yStr_i (.cons yStr_i (.cons yStr_i .nil))) fun p111 H115 np114 c112 r113 => ?_
    have d116 : Dj F78 [p111] := Ty.nin r77 np114
    have d117 : Dj F17 [p111] := Ty.nin r16 np114
    have d118 : Dj [D33] [p111] := Ty.nin r34 np114
    have d119 : Dj [p90] [p111] := Ty.nin r92 np114
    have n120 : ∀ a ∈ [p111], H0 a = none := one_fresh (c0.dom p111 np114)
    have r0 := Ty.fz r0 c112
    have r77 := Ty.ex r77 c112
    have r16 := Ty.ex r16 c112
    have r34 := Ty.ex r34 c112
    have r92 := Ty.ex r92 c112
    have c0 := c0.trans c112.none
    obtain ⟨e121, he121, hm⟩ := Mi.bnd hm
    refine l_lst r113 (fun i σ' H' => ∃ (s122 : Unit) (y123 : Option V), σ' = [some v0, some v76, some v15, some (.ref D33), some (.ref p90), y123, none, none] ∧ Chg ([] : List Addr) H0 H' ∧ yScr.rep K H' [] v0 d0 ∧ (yLst yInt).rep K H' F78 v76 q87.2 ∧ (yLst yStr).rep K H' F17 v15 q12.1 ∧ (yLst (yObj C_Light nm_Light ty_Light)).rep K H' [D33] (.ref D33) s32.1 ∧ (yLst yStr).rep K H' [p90] (.ref p90) [q84.1, q87.1] ∧ (yLst yStr).rep K H' [p111] (.ref p111) [x99, x103, x107] ∧ Mi.forR (Mi.m_law_b2 q12 s32) s122 (List.drop i [x99, x103, x107]) = some e121) ⟨(), none, rfl, c0, r0, r77, r16, r34, r92, r113, he121⟩ (fun i σ' H' hp => by obtain ⟨s122, y123, rfl, c0, r0, r77, r16, r34, r92, r113, _⟩ := hp; exact r113) (fun i126 x125 u127 σ' H' hx124 r128 hp => ?_) (fun σ' H' hp => ?_)
    ·
      obtain ⟨s122, y123, rfl, c0, r0, r77, r16, r34, r92, r113, hle121⟩ := hp
      obtain ⟨o129, hbe121, hore121⟩ := Mi.forR_go hle121 hx124
      unfold Mi.m_law_b2 at hbe121
      obtain ⟨_, rfl⟩ := r128
      refine g_name (σ' := [some v0, some v76, some v15, some (.ref D33), some (.ref p90), some (.str (toS x125)), none, none]) rfl ?_
      refine q_ifS ?_
      refine w_not ?_
      refine w_B ?_
      refine w_call ?_
      refine w_args (va_cons (val_var rfl) (va_cons (val_var rfl) (va_cons (val_var rfl) va_nil))) ?_
      obtain ⟨q130, hq130, hbe121⟩ := Mi.bnd hbe121
      refine ⟨(.ref D33), [D33], s32.1, v15, F17, q12.1, x125, q130, rfl, r34, r16, hq130, fun H132 c131  => ?_⟩
      have r0 := Ty.fz r0 c131
      have r77 := Ty.ex r77 c131
      have r16 := Ty.ex r16 c131
      have r34 := Ty.ex r34 c131
      have r92 := Ty.ex r92 c131
      have r113 := Ty.ex r113 c131
      have c0 := c0.trans c131.none
      refine ⟨_, rfl, ?_⟩
      refine c_if (fun hb => ?_) (fun hb => ?_)
      ·
        replace hbe121 := Mi.ifT hb hbe121
        refine q_ret ?_
        refine c_val val_c ?_
        obtain rfl := Option.some.inj hbe121
        obtain rfl := Mi.or_inl hore121
        obtain rfl := Option.some.inj (Mi.orR_inl hm)
        exact hQ _ c0 
      replace hbe121 := Mi.ifF hb hbe121
      refine w_fall ?_
      refine w_nextJ ?_
      obtain rfl := Option.some.inj hbe121
      replace hore121 := Mi.or_inr hore121
      exact ⟨_, (some (.str (toS x125))), rfl, c0, r0, r77, r16, r34, r92, r113, hore121⟩
    obtain ⟨s122, y123, rfl, c0, r0, r77, r16, r34, r92, r113, hle121⟩ := hp
    obtain rfl := Mi.forR_end hle121
    replace hm := Mi.orR_inr hm
    obtain ⟨s133, hs133, hm⟩ := Mi.bnd hm
    refine s_join (R := fun σ' H' => ∃ (y134 : Option V), σ' = [some v0, some v76, some v15, some (.ref D33), some (.ref p90), y123, y134, none] ∧ Chg ([] : List Addr) H0 H' ∧ yScr.rep K H' [] v0 d0 ∧ (yLst yInt).rep K H' F78 v76 s133.1 ∧ (yLst yStr).rep K H' F17 v15 s133.2.1 ∧ (yLst (yObj C_Light nm_Light ty_Light)).rep K H' [D33] (.ref D33) s133.2.2 ∧ (yLst yStr).rep K H' [p90] (.ref p90) [q84.1, q87.1]) (fun nx kx => ?_) (fun σ' H' hj => ?_)
    ·
      refine s_if (ans_t (val_gt (val_lenL r16 (val_var rfl)) val_c)) (fun hb => ?_) (fun hb => ?_)
      ·
        replace hs133 := Mi.ifT hb hs133
        refine q_asg ?_
        refine w_call ?_
        refine w_args (va_cons (val_var rfl) (va_cons (val_lenL r16 (val_var rfl)) va_nil)) ?_
        obtain ⟨q135, hq135, hs133⟩ := Mi.bnd hs133
        refine ⟨v76, F78, q87.2, (q12.1.length : Int), q135, rfl, r77, hq135, fun H137 c136 r77 => ?_⟩
        have r0 := Ty.fz r0 c136
        have r16 := Ty.chg r16 c136 d81
        have r34 := Ty.chg r34 c136 d82
        have r92 := Ty.chg r92 c136 d95.symm
        have c0 := c0.join c136 (fun a h => .inr (n83 a h))
        refine g_name (σ' := [some v0, some v76, some v15, some (.ref D33), some (.ref p90), y123, some (.int q135.1), none]) rfl ?_
        refine q_drop (w_bm (c_val (val_var rfl) ⟨tyv_lst r16, ?_⟩))
        refine w_args (va_cons (val_var rfl) va_nil) ?_
        obtain ⟨z138, hz138, hs133⟩ := Mi.bnd hs133
        obtain ⟨x139, hx139, hs133⟩ := Mi.bnd hs133
        refine m_popAt r16 hx139 (of_guard hz138) fun u142 H141 c140 r143 r16 => ?_
        have r0 := Ty.fz r0 c140
        have r77 := Ty.chg r77 c140 d81.symm
        have r34 := Ty.chg r34 c140 d36.symm
        have r92 := Ty.chg r92 c140 d96.symm
        have c0 := c0.join c140 (fun a h => .inr (n20 a h))
        refine q_drop (w_bm (c_val (val_var rfl) ⟨tyv_lst r34, ?_⟩))
        refine w_args (va_cons (val_var rfl) va_nil) ?_
        obtain ⟨z144, hz144, hs133⟩ := Mi.bnd hs133
        obtain ⟨x145, hx145, hs133⟩ := Mi.bnd hs133
        refine m_popAt r34 hx145 (of_guard hz144) fun u148 H147 c146 r149 r34 => ?_
        have r0 := Ty.fz r0 c146
        have r77 := Ty.chg r77 c146 d82.symm
        have r16 := Ty.chg r16 c146 d36
        have r92 := Ty.chg r92 c146 d97.symm
        have c0 := c0.join c146 (fun a h => .inr (n37 a h))
        refine w_nextJ ?_
        obtain rfl := Option.some.inj hs133
        exact kx _ _ ⟨(some (.int q135.1)), rfl, c0, r0, r77, r16, r34, r92⟩
      ·
        replace hs133 := Mi.ifF hb hs133
        refine w_nextJ ?_
        obtain rfl := Option.some.inj hs133
        exact kx _ _ ⟨none, rfl, c0, r0, r77, r16, r34, r92⟩
    obtain ⟨y134, rfl, c0, r0, r77, r16, r34, r92⟩ := hj
    refine q_ifS ?_
    obtain ⟨b150, hb150, hm⟩ := Mi.bnd hm
    refine j_tt b150 (R := fun H' => Chg ([] : List Addr) H0 H' ∧ yScr.rep K H' [] v0 d0 ∧ (yLst yInt).rep K H' F78 v76 s133.1 ∧ (yLst yStr).rep K H' F17 v15 s133.2.1 ∧ (yLst (yObj C_Light nm_Light ty_Light)).rep K H' [D33] (.ref D33) s133.2.2 ∧ (yLst yStr).rep K H' [p90] (.ref p90) [q84.1, q87.1]) (fun Q' kq => ?_) (fun H' hj => ?_)
    ·
      refine w_or ?_
      refine w_not ?_
      refine w_B ?_
      refine w_call ?_
      obtain ⟨x151, hx151, hb150⟩ := Mi.bnd hb150
      obtain ⟨u152, r153, ku154⟩ := itm_L r92 hx151
      obtain ⟨_, rfl⟩ := r153
      refine w_args (va_cons (val_var rfl) (va_cons (val_var rfl) (va_cons (ku154 (val_var rfl) val_c) va_nil))) ?_
      obtain ⟨q155, hq155, hb150⟩ := Mi.bnd hb150
      refine ⟨(.ref D33), [D33], s133.2.2, v15, F17, s133.2.1, x151, q155, rfl, r34, r16, hq155, fun H157 c156  => ?_⟩
      have r0 := Ty.fz r0 c156
      have r77 := Ty.ex r77 c156
      have r16 := Ty.ex r16 c156
      have r34 := Ty.ex r34 c156
      have r92 := Ty.ex r92 c156
      have c0 := c0.trans c156.none
      refine ⟨_, rfl, ?_⟩
      refine c_if (fun hb => ?_) (fun hb => ?_)
      ·
        replace hb150 := Mi.ifT hb hb150
        obtain rfl := Option.some.inj hb150
        exact kq _ ⟨c0, r0, r77, r16, r34, r92⟩
      replace hb150 := Mi.ifF hb hb150
      refine w_not ?_
      refine w_B ?_
      refine w_call ?_
      obtain ⟨x158, hx158, hb150⟩ := Mi.bnd hb150
      obtain ⟨u159, r160, ku161⟩ := itm_L r92 hx158
      obtain ⟨_, rfl⟩ := r160
      refine w_args (va_cons (val_var rfl) (va_cons (val_var rfl) (va_cons (ku161 (val_var rfl) val_c) va_nil))) ?_
      obtain ⟨q162, hq162, hb150⟩ := Mi.bnd hb150
      refine ⟨(.ref D33), [D33], s133.2.2, v15, F17, s133.2.1, x158, q162, rfl, r34, r16, hq162, fun H164 c163  => ?_⟩
      have r0 := Ty.fz r0 c163
      have r77 := Ty.ex r77 c163
      have r16 := Ty.ex r16 c163
      have r34 := Ty.ex r34 c163
      have r92 := Ty.ex r92 c163
      have c0 := c0.trans c163.none
      refine ⟨_, rfl, ?_⟩
      obtain rfl := Option.some.inj hb150
      exact kq _ ⟨c0, r0, r77, r16, r34, r92⟩
    obtain ⟨c0, r0, r77, r16, r34, r92⟩ := hj
    refine c_if (fun hb => ?_) (fun hb => ?_)
    ·
      replace hm := Mi.ifT hb hm
      refine q_ret ?_
      refine c_val val_c ?_
      obtain rfl := Option.some.inj hm
      exact hQ _ c0 
    replace hm := Mi.ifF hb hm
    refine w_fall ?_
    obtain ⟨s165, hs165, hm⟩ := Mi.bnd hm
    refine s_join (R := fun σ' H' => ∃ (y166 : Option V), σ' = [some v0, some v76, some v15, some (.ref D33), some (.ref p90), y123, y166, none] ∧ Chg ([] : List Addr) H0 H' ∧ yScr.rep K H' [] v0 d0 ∧ (yLst yStr).rep K H' F17 v15 s165.1 ∧ (yLst (yObj C_Light nm_Light ty_Light)).rep K H' [D33] (.ref D33) s165.2 ∧ (yLst yStr).rep K H' [p90] (.ref p90) [q84.1, q87.1]) (fun nx kx => ?_) (fun σ' H' hj => ?_)
    ·
      refine s_if (ans_t (val_gt (val_lenL r16 (val_var rfl)) val_c)) (fun hb => ?_) (fun hb => ?_)
      ·
        replace hs165 := Mi.ifT hb hs165
        refine q_asg ?_
        refine w_call ?_
        refine w_args (va_cons (val_var rfl) (va_cons (val_lenL r16 (val_var rfl)) va_nil)) ?_
        obtain ⟨q167, hq167, hs165⟩ := Mi.bnd hs165
        refine ⟨v76, F78, s133.1, (s133.2.1.length : Int), q167, rfl, r77, hq167, fun H169 c168 r77 => ?_⟩
        have r0 := Ty.fz r0 c168
        have r16 := Ty.chg r16 c168 d81
        have r34 := Ty.chg r34 c168 d82
        have r92 := Ty.chg r92 c168 d95.symm
        have c0 := c0.join c168 (fun a h => .inr (n83 a h))
        refine g_name (σ' := [some v0, some v76, some v15, some (.ref D33), some (.ref p90), y123, some (.int q167.1), none]) rfl ?_
        refine q_drop (w_bm (c_val (val_var rfl) ⟨tyv_lst r16, ?_⟩))
        obtain ⟨x170, hx170, hs165⟩ := Mi.bnd hs165
        obtain ⟨u171, r172, ku173⟩ := itm_L r16 hx170
        obtain ⟨_, rfl⟩ := r172
        refine w_args (va_cons (ku173 (val_var rfl) (val_var rfl)) va_nil) ?_
        obtain ⟨x174, hx174, hs165⟩ := Mi.bnd hs165
        refine m_app r16 yStr_i hx174 fun H176 c175 r16 => ?_
        have r0 := Ty.fz r0 c175
        have r77 := Ty.chg r77 c175 d81.symm
        have r34 := Ty.chg r34 c175 d36.symm
        have r92 := Ty.chg r92 c175 d96.symm
        have c0 := c0.join c175 (fun a h => .inr (n20 a h))
        refine q_drop (w_bm (c_val (val_var rfl) ⟨tyv_lst r34, ?_⟩))
        obtain ⟨x177, hx177, hs165⟩ := Mi.bnd hs165
        obtain ⟨u178, r179, ku180⟩ := itm_L r34 hx177
        refine w_args (va_cons (ku180 (val_var rfl) (val_var rfl)) va_nil) ?_
        obtain ⟨x181, hx181, hs165⟩ := Mi.bnd hs165
        refine m_app r34 r179 hx181 fun H183 c182 r34 => ?_
        have r0 := Ty.fz r0 c182
        have r77 := Ty.chg r77 c182 d82.symm
        have r16 := Ty.chg r16 c182 d36
        have r92 := Ty.chg r92 c182 d97.symm
        have c0 := c0.join c182 (fun a h => .inr (n37 a h))
        refine w_nextJ ?_
        obtain rfl := Option.some.inj hs165
        exact kx _ _ ⟨(some (.int q167.1)), rfl, c0, r0, r16, r34, r92⟩
      ·
        replace hs165 := Mi.ifF hb hs165
        refine w_nextJ ?_
        obtain rfl := Option.some.inj hs165
        exact kx _ _ ⟨y134, rfl, c0, r0, r16, r34, r92⟩
    obtain ⟨y166, rfl, c0, r0, r16, r34, r92⟩ := hj
    refine q_ret ?_
    obtain ⟨b184, hb184, hm⟩ := Mi.bnd hm
    refine j_te (.bl b184) (R := fun H' => Chg ([] : List Addr) H0 H' ∧ yScr.rep K H' [] v0 d0 ∧ (yLst yStr).rep K H' F17 v15 s165.1 ∧ (yLst (yObj C_Light nm_Light ty_Light)).rep K H' [D33] (.ref D33) s165.2 ∧ (yLst yStr).rep K H' [p90] (.ref p90) [q84.1, q87.1]) (fun Q' kq => ?_) (fun H' hj => ?_)
    ·
      refine w_andV ?_
      refine w_call ?_
      obtain ⟨x185, hx185, hb184⟩ := Mi.bnd hb184
      obtain ⟨u186, r187, ku188⟩ := itm_L r92 hx185
      obtain ⟨_, rfl⟩ := r187
      refine w_args (va_cons (val_var rfl) (va_cons (val_var rfl) (va_cons (ku188 (val_var rfl) val_c) va_nil))) ?_
      obtain ⟨q189, hq189, hb184⟩ := Mi.bnd hb184
      refine ⟨(.ref D33), [D33], s165.2, v15, F17, s165.1, x185, q189, rfl, r34, r16, hq189, fun H191 c190  => ?_⟩
      have r0 := Ty.fz r0 c190
      have r16 := Ty.ex r16 c190
      have r34 := Ty.ex r34 c190
      have r92 := Ty.ex r92 c190
      have c0 := c0.trans c190.none
      refine ⟨_, rfl, ?_⟩
      refine c_if (fun hb => ?_) (fun hb => ?_)
      rotate_left
      ·
        replace hb184 := Mi.ifF hb hb184
        obtain rfl := Option.some.inj hb184
        exact kq _ ⟨c0, r0, r16, r34, r92⟩
      replace hb184 := Mi.ifT hb hb184
      refine w_call ?_
      obtain ⟨x192, hx192, hb184⟩ := Mi.bnd hb184
      obtain ⟨u193, r194, ku195⟩ := itm_L r92 hx192
      obtain ⟨_, rfl⟩ := r194
      refine w_args (va_cons (val_var rfl) (va_cons (val_var rfl) (va_cons (ku195 (val_var rfl) val_c) va_nil))) ?_
      obtain ⟨q196, hq196, hb184⟩ := Mi.bnd hb184
      refine ⟨(.ref D33), [D33], s165.2, v15, F17, s165.1, x192, q196, rfl, r34, r16, hq196, fun H198 c197  => ?_⟩
      have r0 := Ty.fz r0 c197
      have r16 := Ty.ex r16 c197
      have r34 := Ty.ex r34 c197
      have r92 := Ty.ex r92 c197
      have c0 := c0.trans c197.none
      obtain rfl := Option.some.inj hb184
      exact kq _ ⟨c0, r0, r16, r34, r92⟩
    obtain ⟨c0, r0, r16, r34, r92⟩ := hj
    obtain rfl := Option.some.inj hm
    exact hQ _ c0 
end
end G

set_option maxHeartbeats 0
namespace G
open PySem PySem.Spec PyProof.Rows L2
theorem fun_of {K : PySem.W.Frag} {x q : Str} {st : Stmt} {f : Addr} {fd : FuncData} (F : FunD K x q (defArgs st) (defBody st) (defScope st) [] [] f fd) : Fun K x q st f fd := by
  obtain ⟨oc, od, dV, kV, doc, pm, an, cdv, ct, osl, e, lk, hcd, hd, _⟩ := F.ex
  rcases hd with ⟨_, rfl⟩ | ⟨z, _⟩
  · exact ⟨⟨oc, od, kV, doc, pm, an, cdv, ct, osl, e, lk, hcd⟩, F.kp⟩
  · exact absurd rfl z
def dOf (x : Str) (i : Nat) : He.DefD := ⟨(x, none), x, x, defArgs (topS i), defBody (topS i), defScope (topS i), [], []⟩
def dOfM (c m qual : Str) (st : Stmt) (kw : List (Str × He.Dv)) : He.DefD := ⟨(c, some m), m, qual, defArgs st, defBody st, defScope st, [], kw⟩
def fnL : List He.DefD := [dOf "is_pattern" 8, dOfM "Light" "__init__" "Light.__init__" s_Light_init [("reach", .int 1)], dOf "flashes" 10, dOf "readings" 12, dOf "certain_light" 13, dOf "_law_hand" 15, dOf "_law_pick" 16, dOf "_law_int" 17, dOf "_law_pattern" 18, dOf "_law_shown" 19, dOf "_law_changed" 20, dOf "_law_kin" 21, dOf "_law_patterns" 22, dOf "_law_word" 23, dOf "_law_readings" 24, dOf "_law_certain" 25, dOf "_law_are_pairs" 26, dOf "_law_is_number" 27, dOf "_law_reads" 28, dOf "law" 29]
def faL : List He.Fa := [.glo "is_pattern", .mkr "Light", .glo "flashes", .glo "readings", .glo "certain_light", .glo "_law_hand", .glo "_law_pick", .glo "_law_int", .glo "_law_pattern", .glo "_law_shown", .glo "_law_changed", .glo "_law_kin", .glo "_law_patterns", .glo "_law_word", .glo "_law_readings", .glo "_law_certain", .glo "_law_are_pairs", .glo "_law_is_number", .glo "_law_reads", .glo "law", .free "len", .free "range", .free "int", .free "bool", .free "isinstance", .free "max", .free "min", .free "list", .free "tuple", .free "sorted", .free "set", .free "enumerate", .free "zip", .free "reversed", .free "sum", .free "any", .free "all", .free "str", .int "LAST_PLACE" 11, .int "MOST_REACH" 3, .int "MOST_SIGNS" 12, .str "SIGNS" "*.", .glo "Light", .cls "Light", .noat "Light" "place", .noat "Light" "pattern", .noat "Light" "reach"]
abbrev R : PySem.W.OpenRow := PySem.W.OpenLaw.row PySem.Challenge.rw_fogfleet_k15_readings_of_a_word
abbrev hk : PySem.W.Hook := He.hookD 4 faL fnL
def ob (s : PySem.W.SharedT) : He.AlD := He.obsDG 4 faL fnL (HandSHeadRun.getT s)
theorem ob_eq (s : PySem.W.SharedT) : ob s = hk.obs s.abs := He.obsDG_eq (HandSHeadRun.getT_eq s)
def looseL : List Str := (["FleetError", "InvalidLight", "SIGNS", "MOST_SIGNS", "LAST_PLACE", "MOST_REACH", "is_pattern", "Light", "flashes", "readings", "certain_light", "_law_hand", "_law_pick", "_law_int", "_law_pattern", "_law_shown", "_law_changed", "_law_kin", "_law_patterns", "_law_word", "_law_readings", "_law_certain", "_law_are_pairs", "_law_is_number", "_law_reads"] : List Str)
theorem run (w : World) : HandSHeadRun.RunEq R (PySem.W.view R.prog [29]) hk ob 6000 looseL w := by
  intro os
  kernel_rfl
theorem dfn_of {K : PySem.W.Frag} {h : Heap} {mg : Str → Option Value} (X : K.In h) (G : h.Ns mainGlobals mg) (c : He.SaysD faL fnL K) (i j k : Nat) (x : Str) (hi : fnL[i]? = some (dOf x k)) (hj : faL[j]? = some (.glo x)) : Dfn K mg x (topS k) := by
  obtain ⟨fd, F⟩ := c.def_ i hi
  exact ⟨⟨_, fd, fun_of F, He.glo_ok X G (c.fact j hj)⟩⟩
theorem dfnM_of {K : PySem.W.Frag} (c : He.SaysD faL fnL K) (i j : Nat) (C m qual : Str) (st : Stmt) (hi : fnL[i]? = some (dOfM C m qual st [])) (hj : faL[j]? = some (.meth C m)) : DfnM K (He.ga K C) m qual st := by
  obtain ⟨fd, F⟩ := c.def_ i hi
  exact ⟨⟨_, fd, fun_of F, He.meth_ok (c.fact j hj)⟩⟩
theorem dfnI_of {K : PySem.W.Frag} (c : He.SaysD faL fnL K) (i j : Nat) (C qual : Str) (st : Stmt) (kw : List (Str × He.Dv)) (hi : fnL[i]? = some (dOfM C "__init__" qual st kw)) (hj : faL[j]? = some (.mkr C)) : DfnI K (He.ga K C) qual st (kw.map fun q => (q.1, q.2.v K)) := by
  obtain ⟨fd, F⟩ := c.def_ i hi
  exact ⟨⟨_, fd, F, He.mkr_ok (c.fact j hj)⟩⟩
theorem facts {P : Program} {w : World} {K : PySem.W.Frag} {h : Heap} {mg : Str → Option Value} (X : K.In h) (G : h.Ns mainGlobals mg) (c : He.SaysD faL fnL K) {fa : Addr} (hfa : mg ("law" : Str) = some (.ref fa)) :
    ∃ fd : FuncData, (∀ (s : Shared) (v : Value), BindsTo s fd ⟨[v], []⟩ [("_law_script", v)]) ∧ ∀ base : Heap, K.In base → base.Ns mainGlobals mg → FnOk P w K mg base CX0 5 fa fd ["_law_script"] (sp_law K) := by
  have B : Bi mg := ⟨He.free_ok X G (c.fact 20 rfl), He.free_ok X G (c.fact 21 rfl), He.free_ok X G (c.fact 22 rfl), He.free_ok X G (c.fact 23 rfl), He.free_ok X G (c.fact 24 rfl), He.free_ok X G (c.fact 25 rfl), He.free_ok X G (c.fact 26 rfl), He.free_ok X G (c.fact 27 rfl), He.free_ok X G (c.fact 28 rfl), He.free_ok X G (c.fact 29 rfl), He.free_ok X G (c.fact 30 rfl), He.free_ok X G (c.fact 31 rfl), He.free_ok X G (c.fact 32 rfl), He.free_ok X G (c.fact 33 rfl), He.free_ok X G (c.fact 34 rfl), He.free_ok X G (c.fact 35 rfl), He.free_ok X G (c.fact 36 rfl), He.free_ok X G (c.fact 37 rfl)⟩
  have CN : Cs mg := ⟨He.int_ok X G (c.fact 38 rfl), He.int_ok X G (c.fact 39 rfl), He.int_ok X G (c.fact 40 rfl), He.str_ok X G (c.fact 41 rfl)⟩
  have T_Light : Tx K mg (He.ga K "Light") "Light" nm_Light := ⟨He.cls_ok (c.fact 43 rfl), He.glo_ok X G (c.fact 42 rfl), fun f hf => by
    simp only [List.mem_cons, List.not_mem_nil, or_false] at hf
    rcases hf with rfl | rfl | rfl
    · exact He.noat_ok (c.fact 44 rfl)
    · exact He.noat_ok (c.fact 45 rfl)
    · exact He.noat_ok (c.fact 46 rfl)⟩
  have C_is_pattern : Cal P w K mg "is_pattern" ["text"] 1 (sp_is_pattern K) := ok_is_pattern B CN (dfn_of X G c 0 0 8 "is_pattern" rfl rfl)
  have I_Light : CalI P w K mg (He.ga K "Light") "Light.__init__" s_Light_init kw_Light ["self", "place", "pattern", "reach"] 2 (sp_Light_init K (He.ga K "Light")) := ok_Light_init B CN T_Light C_is_pattern (dfnI_of c 1 1 "Light" "Light.__init__" s_Light_init [("reach", .int 1)] rfl rfl)
  have C_flashes : Cal P w K mg "flashes" ["light", "hour", "count"] 1 (sp_flashes K (He.ga K "Light")) := ok_flashes B CN (dfn_of X G c 2 2 10 "flashes" rfl rfl) T_Light
  have C_readings : Cal P w K mg "readings" ["lights", "word"] 2 (sp_readings K (He.ga K "Light")) := ok_readings B CN (dfn_of X G c 3 3 12 "readings" rfl rfl) T_Light C_flashes
  have C_certain_light : Cal P w K mg "certain_light" ["lights", "word"] 3 (sp_certain_light K (He.ga K "Light")) := ok_certain_light B CN (dfn_of X G c 4 4 13 "certain_light" rfl rfl) T_Light C_readings
  have C_l_hand : Cal P w K mg "_law_hand" ["_law_script", "_law_k"] 1 (sp_l_hand K) := ok_l_hand B CN (dfn_of X G c 5 5 15 "_law_hand" rfl rfl)
  have C_l_pick : Cal P w K mg "_law_pick" ["_law_hand_here", "_law_size"] 1 (sp_l_pick K) := ok_l_pick B CN (dfn_of X G c 6 6 16 "_law_pick" rfl rfl)
  have C_l_int : Cal P w K mg "_law_int" ["_law_x"] 1 (sp_l_int K) := ok_l_int B CN (dfn_of X G c 7 7 17 "_law_int" rfl rfl)
  have C_l_pattern : Cal P w K mg "_law_pattern" ["_law_hand_here"] 2 (sp_l_pattern K) := ok_l_pattern B CN (dfn_of X G c 8 8 18 "_law_pattern" rfl rfl) C_l_pick
  have C_l_shown : Cal P w K mg "_law_shown" ["_law_pattern_here", "_law_hour", "_law_count"] 1 (sp_l_shown K) := ok_l_shown B CN (dfn_of X G c 9 9 19 "_law_shown" rfl rfl)
  have C_l_changed : Cal P w K mg "_law_changed" ["_law_word_here", "_law_spot"] 1 (sp_l_changed K) := ok_l_changed B CN (dfn_of X G c 10 10 20 "_law_changed" rfl rfl)
  have C_l_kin : Cal P w K mg "_law_kin" ["_law_hand_here", "_law_pattern_here"] 2 (sp_l_kin K) := ok_l_kin B CN (dfn_of X G c 11 11 21 "_law_kin" rfl rfl) C_l_pick C_l_changed
  have C_l_patterns : Cal P w K mg "_law_patterns" ["_law_hand_here", "_law_count"] 3 (sp_l_patterns K) := ok_l_patterns B CN (dfn_of X G c 12 12 22 "_law_patterns" rfl rfl) C_l_pick C_l_pattern C_l_kin
  have C_l_word : Cal P w K mg "_law_word" ["_law_hand_here", "_law_rows"] 2 (sp_l_word K) := ok_l_word B CN (dfn_of X G c 13 13 23 "_law_word" rfl rfl) C_l_pick C_l_shown C_l_changed
  have C_l_readings : Cal P w K mg "_law_readings" ["_law_rows", "_law_word_here"] 2 (sp_l_readings K) := ok_l_readings B CN (dfn_of X G c 14 14 24 "_law_readings" rfl rfl) C_l_shown
  have C_l_certain : Cal P w K mg "_law_certain" ["_law_found"] 1 (sp_l_certain K) := ok_l_certain B CN (dfn_of X G c 15 15 25 "_law_certain" rfl rfl)
  have C_l_are_pairs : Cal P w K mg "_law_are_pairs" ["_law_told", "_law_due"] 2 (sp_l_are_pairs K) := ok_l_are_pairs B CN (dfn_of X G c 16 16 26 "_law_are_pairs" rfl rfl) C_l_int
  have C_l_is_number : Cal P w K mg "_law_is_number" ["_law_told", "_law_due"] 2 (sp_l_is_number K) := ok_l_is_number B CN (dfn_of X G c 17 17 27 "_law_is_number" rfl rfl) C_l_int
  have C_l_reads : Cal P w K mg "_law_reads" ["_law_handed", "_law_rows", "_law_word_here"] 4 (sp_l_reads K (He.ga K "Light")) := ok_l_reads B CN (dfn_of X G c 18 18 28 "_law_reads" rfl rfl) T_Light C_readings C_certain_light C_l_readings C_l_certain C_l_are_pairs C_l_is_number
  have C_law : Cal P w K mg "law" ["_law_script"] 5 (sp_law K) := ok_law B CN (dfn_of X G c 19 19 29 "law" rfl rfl) T_Light I_Light C_l_hand C_l_pick C_l_patterns C_l_word C_l_reads
  exact fn_law hfa C_law
end G

open PySem PySem.W PySem.Calls PyProof.Rows
theorem PySem.Challenge.cw_fogfleet_k15_readings_of_a_word_holds : PySem.Challenge.rw_fogfleet_k15_readings_of_a_word.Holds := by
  w_on; o_law
  refine HandSHeadRun.head_any (r := OpenLaw.row PySem.Challenge.rw_fogfleet_k15_readings_of_a_word) (q := view (OpenLaw.row PySem.Challenge.rw_fogfleet_k15_readings_of_a_word).prog [29]) (H := G.hk) (ob := G.ob) (M := 6000) (loose := G.looseL) (d := HandSHeadRun.topDef (OpenLaw.row PySem.Challenge.rw_fogfleet_k15_readings_of_a_word).prog 29) (kwd := []) G.ob_eq
    (by kernel_rfl) (fun s => by kernel_rfl) G.run (by kernel_rfl) (by kernel_rfl) (by kernel_rfl) (by rfl) (by first | assumption | decide +kernel) (by decide +kernel) ⟨rfl, rfl, rfl, rfl, rfl, by decide +kernel⟩ ?hw ?hc
  case hw => w_witness2
  case hc =>
    refine L2.walk_ofE (l := PySem.Challenge.rw_fogfleet_k15_readings_of_a_word) (n := 63) (k := 5) (x := "_law_script") (CX := L2.CX0) rfl (by decide) (by kernel_rfl) ⟨rfl, by decide, by decide⟩ ?F (fun _ _ _ _ z => z)
    intro w mg fa h Y G0 hmg0
    obtain ⟨K, KX, c⟩ := Y
    have hmg : mg ("law" : PySem.Str) = some (.ref fa) := by
      have e : (HandSHeadRun.topDef (OpenLaw.row PySem.Challenge.rw_fogfleet_k15_readings_of_a_word).prog 29).name = ("law" : PySem.Str) := by kernel_rfl
      rw [← e]
      exact hmg0
    obtain ⟨fd, hb, hF⟩ := G.facts (P := (PySem.Challenge.rw_fogfleet_k15_readings_of_a_word).prog) (w := w) KX G0 c hmg
    exact ⟨K, fd, G.sp_law K, KX, hb, fun H a ns hl hO hS => ⟨_, ns, true, rfl, G.yScr_of hO hS, Mi.law_true ns hl, fun _ _ => rfl⟩, hF⟩
