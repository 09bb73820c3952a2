import PyProof.Rows.All
import Wide.All
import OpenK.AllK
import Wide.FinOn
import HandS.ForMost
import HandS.ForExc
import HandS.Wide
import HandS.IsInst
import HandS.Flow
import HandS.Defaults
import HandS.SortInts
import HandS.Strs
import HandS.TupSets
import HandS.MakeKw
import HandS.MakeKwOnly
import HandS.Conv
import HandS.Steps
import KE.GoesMore
import KE.KStateDown
import Lean
import HandS.Head0
import HandS.Head1
import HandS.Head2
import HandS.HeadEnd
import HandS.HeadHook1
import HandS.HeadHook2
import PySem.Challenge.RW_fogfleet_k17_unmet_reports
set_option Elab.async false
set_option linter.all false
set_option maxRecDepth 100000
set_option maxHeartbeats 4000000
/-! the plain meaning of the program's steps: none is what this text says nothing about -/
namespace Mi
def pyLet {α β : Type} (e : α) (f : α → β) : β := f e
def ixN (n : Nat) (i : Int) : Option Nat := if 0 ≤ i then (if i < n then some i.toNat else none) else if -(n : Int) ≤ i then some (i + n).toNat else none
def at_ {α : Type} (xs : List α) (i : Int) : Option α := (ixN xs.length i).bind fun j => xs[j]?
def setAt {α : Type} (xs : List α) (i : Int) (x : α) : Option (List α) := (ixN xs.length i).bind fun j => some (xs.set j x)
def sIx (n d : Nat) : Option Int → Nat
  | none => d
  | some v => if v < 0 then (v + (n : Int)).toNat else min v.toNat n
def cut {α : Type} (xs : List α) (lo hi : Option Int) : List α := (xs.drop (sIx xs.length 0 lo)).take (sIx xs.length xs.length hi - sIx xs.length 0 lo)
def big : Nat := 1000000
def app {α : Type} (xs : List α) (x : α) : Option (List α) := if xs.length < big then some (xs ++ [x]) else none
def cat {α : Type} (xs ys : List α) : Option (List α) := if xs.length + ys.length ≤ big then some (xs ++ ys) else none
def mul (i j : Int) : Option Int := if (-(2 ^ 64) < i ∧ i < 2 ^ 64) ∨ (-(2 ^ 64) < j ∧ j < 2 ^ 64) then some (i * j) else none
def mod (i j : Int) : Option Int := if 0 < j then some (i % j) else none
def fdiv (i j : Int) : Option Int := if 0 < j ∧ j < 2 ^ 200 then some (i / j) else none
def guardO (c : Bool) : Option Unit := if c = true then some () else none
def smallI (i : Int) : Bool := decide (-(2 ^ 60) ≤ i) && decide (i < 2 ^ 60)
/-- range(lo, hi) -/
def rng (lo hi : Int) : List Int := (List.range (hi - lo).toNat).map fun (k : Nat) => lo + (k : Int)
/-- range(lo, hi, -1) -/
def rngDown (lo hi : Int) : List Int := (List.range (lo - hi).toNat).map fun (k : Nat) => lo - (k : Int)
/-- a for that runs through -/
def forN {α σ : Type} (f : σ → α → Option σ) : σ → List α → Option σ
  | s, [] => some s
  | s, x :: xs => (f s x).bind fun s' => forN f s' xs
/-- a for that may return (inl) -/
def forR {α σ ρ : Type} (f : σ → α → Option (ρ ⊕ σ)) : σ → List α → Option (ρ ⊕ σ)
  | s, [] => some (.inr s)
  | s, x :: xs => (f s x).bind fun
    | .inl r => some (.inl r)
    | .inr s' => forR f s' xs
/-- a for that may break (inl) -/
def forB {α σ : Type} (f : σ → α → Option (σ ⊕ σ)) : σ → List α → Option σ
  | s, [] => some s
  | s, x :: xs => (f s x).bind fun
    | .inl s' => some s'
    | .inr s' => forB f s' xs
/-- a comprehension: none of the inner option is an item left out; the state is what the items' making changes -/
def comp {α β σ : Type} (f : σ → α → Option (Option β × σ)) : σ → List α → Option (List β × σ)
  | s, [] => some ([], s)
  | s, x :: xs => (f s x).bind fun p => (comp f p.2 xs).bind fun q => some ((match p.1 with | some y => y :: q.1 | none => q.1), q.2)
/-- a comprehension that changes nothing -/
def comp0 {α β : Type} (f : α → Option (Option β)) : List α → Option (List β)
  | [] => some []
  | x :: xs => (f x).bind fun p => (comp0 f xs).bind fun q => some (match p with | some y => y :: q | none => q)
def whileN {σ : Type} (c : σ → Option Bool) (b : σ → Option σ) : Nat → σ → Option σ
  | 0, _ => none
  | n + 1, s => (c s).bind fun t => if t = true then (b s).bind fun s' => whileN c b n s' else some s
def whileR {σ ρ : Type} (c : σ → Option Bool) (b : σ → Option (ρ ⊕ σ)) : Nat → σ → Option (ρ ⊕ σ)
  | 0, _ => none
  | n + 1, s => (c s).bind fun t => if t = true then (b s).bind fun
      | .inl r => some (.inl r)
      | .inr s' => whileR c b n s'
    else some (.inr s)
theorem bnd {α β : Type} {m : Option α} {f : α → Option β} {r : β} (h : m.bind f = some r) : ∃ x, m = some x ∧ f x = some r := by
  cases m with
  | none => cases h
  | some x => exact ⟨x, rfl, h⟩
theorem letE {α β : Type} {e : α} {f : α → Option β} {r : Option β} (h : pyLet e f = r) : ∃ x, e = x ∧ f x = r := ⟨e, rfl, h⟩
theorem ifT {α : Type} {b : Bool} {x y : Option α} {r : Option α} (hb : b = true) (h : (if b = true then x else y) = r) : x = r := by
  rw [if_pos hb] at h; exact h
theorem ifF {α : Type} {b : Bool} {x y : Option α} {r : Option α} (hb : b = false) (h : (if b = true then x else y) = r) : y = r := by
  rw [hb, if_neg Bool.false_ne_true] at h; exact h
end Mi
namespace Mi
def rngO (lo hi : Int) : Option (List Int) := if (-(2 ^ 60) ≤ lo ∧ lo < 2 ^ 60) ∧ (-(2 ^ 60) ≤ hi ∧ hi < 2 ^ 60) then some (rng lo hi) else none
def rngDownO (lo hi : Int) : Option (List Int) := if (-(2 ^ 60) ≤ lo ∧ lo < 2 ^ 60) ∧ (-(2 ^ 60) ≤ hi ∧ hi < 2 ^ 60) then some (rngDown lo hi) else none
theorem forN_go {α σ : Type} {f : σ → α → Option σ} {s e : σ} {xs : List α} {i : Nat} {x : α} (h : forN f s (xs.drop i) = some e) (hx : xs[i]? = some x) : ∃ s', f s x = some s' ∧ forN f s' (xs.drop (i + 1)) = some e := by
  have hi : i < xs.length := (List.getElem?_eq_some_iff.mp hx).1
  have e1 : xs.drop i = x :: xs.drop (i + 1) := by
    rw [List.drop_eq_getElem_cons hi]
    congr 1
    exact (List.getElem?_eq_some_iff.mp hx).2
  rw [e1] at h
  exact bnd h
theorem forN_end {α σ : Type} {f : σ → α → Option σ} {s e : σ} {xs : List α} (h : forN f s (xs.drop xs.length) = some e) : s = e := by
  rw [List.drop_length] at h
  exact Option.some.inj h
theorem forR_go {α σ ρ : Type} {f : σ → α → Option (ρ ⊕ σ)} {s : σ} {e : ρ ⊕ σ} {xs : List α} {i : Nat} {x : α} (h : forR f s (xs.drop i) = some e) (hx : xs[i]? = some x) :
    ∃ o, f s x = some o ∧ ((∃ r, o = .inl r ∧ e = .inl r) ∨ ∃ s', o = .inr s' ∧ forR f s' (xs.drop (i + 1)) = some e) := by
  have hi : i < xs.length := (List.getElem?_eq_some_iff.mp hx).1
  have e1 : xs.drop i = x :: xs.drop (i + 1) := by
    rw [List.drop_eq_getElem_cons hi]
    congr 1
    exact (List.getElem?_eq_some_iff.mp hx).2
  rw [e1] at h
  obtain ⟨o, h1, h2⟩ := bnd h
  refine ⟨o, h1, ?_⟩
  cases o with
  | inl r => exact .inl ⟨r, rfl, (Option.some.inj h2).symm⟩
  | inr s' => exact .inr ⟨s', rfl, h2⟩
theorem forR_end {α σ ρ : Type} {f : σ → α → Option (ρ ⊕ σ)} {s : σ} {e : ρ ⊕ σ} {xs : List α} (h : forR f s (xs.drop xs.length) = some e) : e = .inr s := by
  rw [List.drop_length] at h
  exact (Option.some.inj h).symm
theorem forB_go {α σ : Type} {f : σ → α → Option (σ ⊕ σ)} {s e : σ} {xs : List α} {i : Nat} {x : α} (h : forB f s (xs.drop i) = some e) (hx : xs[i]? = some x) :
    ∃ o, f s x = some o ∧ ((o = .inl e) ∨ ∃ s', o = .inr s' ∧ forB f s' (xs.drop (i + 1)) = some e) := by
  have hi : i < xs.length := (List.getElem?_eq_some_iff.mp hx).1
  have e1 : xs.drop i = x :: xs.drop (i + 1) := by
    rw [List.drop_eq_getElem_cons hi]
    congr 1
    exact (List.getElem?_eq_some_iff.mp hx).2
  rw [e1] at h
  obtain ⟨o, h1, h2⟩ := bnd h
  refine ⟨o, h1, ?_⟩
  cases o with
  | inl r => exact .inl (by rw [Option.some.inj h2])
  | inr s' => exact .inr ⟨s', rfl, h2⟩
theorem forB_end {α σ : Type} {f : σ → α → Option (σ ⊕ σ)} {s e : σ} {xs : List α} (h : forB f s (xs.drop xs.length) = some e) : s = e := by
  rw [List.drop_length] at h
  exact Option.some.inj h
end Mi
namespace Mi
def orR {ρ σ : Type} (o : ρ ⊕ σ) (k : σ → Option ρ) : Option ρ := match o with
  | .inl r => some r
  | .inr s => k s
def orL {ρ σ τ : Type} (o : ρ ⊕ σ) (k : σ → Option (ρ ⊕ τ)) : Option (ρ ⊕ τ) := match o with
  | .inl r => some (.inl r)
  | .inr s => k s
theorem orR_inl {ρ σ : Type} {r q : ρ} {k : σ → Option ρ} (h : orR (.inl r) k = some q) : some r = some q := h
theorem orR_inr {ρ σ : Type} {s : σ} {q : ρ} {k : σ → Option ρ} (h : orR (.inr s) k = some q) : k s = some q := h
theorem orL_inl {ρ σ τ : Type} {r : ρ} {q : ρ ⊕ τ} {k : σ → Option (ρ ⊕ τ)} (h : orL (.inl r) k = some q) : some (.inl r) = some q := h
theorem orL_inr {ρ σ τ : Type} {s : σ} {q : ρ ⊕ τ} {k : σ → Option (ρ ⊕ τ)} (h : orL (.inr s) k = some q) : k s = some q := h
theorem or_inl {ρ σ : Type} {r : ρ} {e : ρ ⊕ σ} {P : σ → Prop} (h : (∃ r', (Sum.inl r : ρ ⊕ σ) = .inl r' ∧ e = .inl r') ∨ ∃ s', (Sum.inl r : ρ ⊕ σ) = .inr s' ∧ P s') : e = .inl r := by
  rcases h with ⟨r', h1, h2⟩ | ⟨s', h1, _⟩
  · cases h1; exact h2
  · cases h1
theorem or_inr {ρ σ : Type} {s : σ} {e : ρ ⊕ σ} {P : σ → Prop} (h : (∃ r', (Sum.inr s : ρ ⊕ σ) = .inl r' ∧ e = .inl r') ∨ ∃ s', (Sum.inr s : ρ ⊕ σ) = .inr s' ∧ P s') : P s := by
  rcases h with ⟨r', h1, h2⟩ | ⟨s', h1, h2⟩
  · cases h1
  · cases h1; exact h2
end Mi
namespace Mi
def shl (i j : Int) : Option Int := if 0 ≤ j ∧ j ≤ 1000 ∧ -(2 ^ 64) < i ∧ i < 2 ^ 64 then some (i * 2 ^ j.toNat) else none
def shr (i j : Int) : Option Int := if 0 ≤ j then some (i / 2 ^ j.toNat) else none
def sortI (xs : List Int) : List Int := xs.mergeSort fun a b => decide (a ≤ b)
def sadd (xs : List Int) (k : Int) : Option (List Int) := if xs.length < 4000 then some (if xs.contains k = true then xs else xs ++ [k]) else none
def popL {α : Type} (xs : List α) : Option (α × List α) := (xs[xs.length - 1]?).bind fun y => some (y, xs.dropLast)
def popAt {α : Type} (xs : List α) (i : Int) : Option (α × List α) := (ixN xs.length i).bind fun j => (xs[j]?).bind fun y => some (y, xs.eraseIdx j)
def lMin (xs : List Int) : Option Int := xs.head?.map fun x => xs.foldl min x
def lMax (xs : List Int) : Option Int := xs.head?.map fun x => xs.foldl max x
/-- enumerate -/
def enumF {α : Type} : Int → List α → List (Int × α)
  | _, [] => []
  | k, x :: xs => (k, x) :: enumF (k + 1) xs
end Mi

namespace Mi
def m_ascending (d0 : (List Int)) : Option (List Int) :=
  some (sortI d0)
def m_is_zone_0_b1 (d1 : Int) (s9 : (List Int)) (x12 : Int) : Option (Bool ⊕ (List Int)) :=
  if ((decide (x12 < (0 : Int))) || ((decide (d1 ≤ x12)) || (s9.contains x12))) = true then
  (some (.inl false))
  else
  (sadd s9 x12).bind fun x19 =>
  some (.inr x19)
def m_is_zone_0 (d0 : (List Int)) (d1 : Int) : Option Bool :=
  (forR (m_is_zone_0_b1 d1) ([] : List Int) d0).bind fun e8 => orR e8 fun s9 =>
  some true
def m_is_zone_1_b1 (d1 : Int) (s8 : (List Int)) (x11 : Int) : Option (Bool ⊕ (List Int)) :=
  if ((decide (x11 < (0 : Int))) || ((decide (d1 ≤ x11)) || (s8.contains x11))) = true then
  (some (.inl false))
  else
  (sadd s8 x11).bind fun x18 =>
  some (.inr x18)
def m_is_zone_1 (d0 : (List Int)) (d1 : Int) : Option Bool :=
  (forR (m_is_zone_1_b1 d1) ([] : List Int) d0).bind fun e7 => orR e7 fun s8 =>
  some true
def m_Report_init (d1 : Int) (d2 : Int) (d3 : (List Int)) (d4 : Int) (d5 : Bool) : Option (Int × Int × (List Int) × Int × Bool) :=
  if ((decide (d1 < (0 : Int))) || (decide ((3 : Int) < d1))) = true then
  (none)
  else
  if ((decide (d2 < (0 : Int))) || (decide ((24 : Int) < d2))) = true then
  (none)
  else
  (m_is_zone_0 d3 (12 : Int)).bind fun q3 =>
  if (!q3) = true then
  (none)
  else
  if ((decide (d4 < (1 : Int))) || (decide ((99 : Int) < d4))) = true then
  (none)
  else
  (m_ascending d3).bind fun q11 =>
  some (d1, d2, q11, d4, d5)
def m_Report_allows (d0 : (Int × Int × (List Int) × Int × Bool)) (d1 : Int) : Option Bool :=
  some (decide ((d0.2.2.1.contains d1) = d0.2.2.2.2))
def m_unmet_0_b1 (d1 : Int) (d2 : (List Int)) (s10 : (List Int)) (x14 : (Int × (Int × Int × (List Int) × Int × Bool))) : Option (List Int) :=
  if ((!(decide (x14.2.1 = d1))) || (decide ((d2.length : Int) ≤ x14.2.2.1))) = true then
  (some s10)
  else
  ((at_ d2 x14.2.2.1).bind fun x34 =>
  (m_Report_allows x14.2 x34).bind fun q35 =>
  if (!q35) = true then ((app s10 x14.1).bind fun x38 =>
  some x38) else (some s10) : Option (List Int)).bind fun s29 =>
  some s29
def m_unmet_0 (d0 : (List (Int × Int × (List Int) × Int × Bool))) (d1 : Int) (d2 : (List Int)) : Option (List Int) :=
  (forN (m_unmet_0_b1 d1 d2) ([] : (List Int)) (enumF 0 d0)).bind fun s10 =>
  some s10
def m_unmet_1_b1 (d1 : Int) (d2 : (List Int)) (s9 : (List Int)) (x13 : (Int × (Int × Int × (List Int) × Int × Bool))) : Option (List Int) :=
  if ((!(decide (x13.2.1 = d1))) || (decide ((d2.length : Int) ≤ x13.2.2.1))) = true then
  (some s9)
  else
  ((at_ d2 x13.2.2.1).bind fun x33 =>
  (m_Report_allows x13.2 x33).bind fun q34 =>
  if (!q34) = true then ((app s9 x13.1).bind fun x37 =>
  some x37) else (some s9) : Option (List Int)).bind fun s28 =>
  some s28
def m_unmet_1 (d0 : (List (Int × Int × (List Int) × Int × Bool))) (d1 : Int) (d2 : (List Int)) : Option (List Int) :=
  (forN (m_unmet_1_b1 d1 d2) ([] : (List Int)) (enumF 0 d0)).bind fun s9 =>
  some s9
def m_l_hand (d0 : (List Int)) (d1 : Int) : Option (List Int) :=
  pyLet ((0 : Int) : Int) fun cell1 =>
  (if (decide (d1 < (d0.length : Int))) = true then ((at_ d0 d1).bind fun x3 =>
  pyLet (x3 : Int) fun cell4 =>
  some cell4) else (some cell1) : Option Int).bind fun s2 =>
  (if (decide (s2 < (0 : Int))) = true then (pyLet (((1 : Int) - ((2 : Int) * s2)) : Int) fun cell6 =>
  some cell6) else (some s2) : Option Int).bind fun s5 =>
  pyLet ((0 : Int) : Int) fun rest7 =>
  (if (decide (((10 : Int) ^ 18) ≤ s5)) = true then (pyLet (s5 : Int) fun rest9 =>
  some rest9) else (some rest7) : Option Int).bind fun s8 =>
  some [s8, (((s5 + ((7919 : Int) * d1)) + (13 : Int)) % (2147483647 : Int)), (0 : Int)]
def m_l_pick (d0 : (List Int)) (d1 : Int) : Option (Int × (List Int)) :=
  if (decide (d1 < (1 : Int))) = true then
  (some ((0 : Int), d0))
  else
  (at_ d0 (0 : Int)).bind fun x1 =>
  if (decide ((0 : Int) < x1)) = true then
  ((at_ d0 (0 : Int)).bind fun x2 =>
  (mod x2 d1).bind fun x3 =>
  pyLet (x3 : Int) fun digit4 =>
  (at_ d0 (0 : Int)).bind fun x5 =>
  (fdiv x5 d1).bind fun x6 =>
  (setAt d0 (0 : Int) x6).bind fun x7 =>
  some (digit4, x7))
  else
  (at_ d0 (2 : Int)).bind fun x10 =>
  (setAt d0 (2 : Int) (x10 + (1 : Int))).bind fun x11 =>
  (at_ x11 (1 : Int)).bind fun x14 =>
  (at_ x11 (2 : Int)).bind fun x15 =>
  pyLet ((((x14 + ((7919 : Int) * x15)) + (13 : Int)) % (2147483647 : Int)) : Int) fun mixed16 =>
  (mul mixed16 (mixed16 + (48271 : Int))).bind fun x17 =>
  pyLet ((x17 % (2147483629 : Int)) : Int) fun mixed18 =>
  (mul mixed18 (mixed18 + (69621 : Int))).bind fun x19 =>
  (at_ x11 (2 : Int)).bind fun x20 =>
  pyLet (((x19 + ((31 : Int) * x20)) % (2147483647 : Int)) : Int) fun mixed21 =>
  (mod (mixed21 / (9 : Int)) d1).bind fun x22 =>
  some (x22, x11)
def m_l_int (d0 : Int) : Option Bool :=
  some (true && (!false))
def m_l_places_b1 (s7 : Int) (s12 : (List Int)) (x20 : Int) : Option (List Int) :=
  (shr s7 x20).bind fun x27 =>
  if (decide ((x27 % (2 : Int)) = (1 : Int))) = true then ((app s12 x20).bind fun x28 =>
  some x28) else (some s12)
def m_l_places (d0 : Int) : Option (List Int) :=
  pyLet ((d0 % (6 : Int)) : Int) fun kind1 =>
  pyLet ((d0 / (6 : Int)) : Int) fun bits2 =>
  (if (decide (kind1 = (0 : Int))) = true then (pyLet ((0 : Int) : Int) fun bits4 =>
  some bits4) else (some bits2) : Option Int).bind fun s3 =>
  (if (decide (kind1 = (1 : Int))) = true then (pyLet ((4095 : Int) : Int) fun bits6 =>
  some bits6) else (some s3) : Option Int).bind fun s5 =>
  (if (decide (kind1 = (2 : Int))) = true then ((shl (1 : Int) (s5 % (12 : Int))).bind fun x8 =>
  pyLet (x8 : Int) fun bits9 =>
  some bits9) else (some s5) : Option Int).bind fun s7 =>
  (rngO 0 (12 : Int)).bind fun g10 =>
  (forN (m_l_places_b1 s7) ([] : (List Int)) g10).bind fun s12 =>
  some s12
def m_l_wild_b1 (d2 : Int) (d3 : Int) (s10 : ((List Int) × (List (Int × Int × (List Int) × Int × Bool)))) (x22 : Int) : Option ((List Int) × (List (Int × Int × (List Int) × Int × Bool))) :=
  (m_l_pick s10.1 (12 : Int)).bind fun q24 =>
  (m_l_pick q24.2 (100 : Int)).bind fun q27 =>
  (m_l_pick q27.2 (24576 : Int)).bind fun q30 =>
  (m_l_places q30.1).bind fun q33 =>
  (m_l_pick q30.2 (198 : Int)).bind fun q43 =>
  (if (decide ((3 : Int) < q24.1)) = true then (pyLet (d3 : Int) fun who47 =>
  some who47) else (some q24.1) : Option Int).bind fun s46 =>
  (if (decide (q27.1 < (75 : Int))) = true then ((mod q27.1 (d2 + (1 : Int))).bind fun x49 =>
  pyLet (x49 : Int) fun when50 =>
  some when50) else (pyLet ((q27.1 - (75 : Int)) : Int) fun when51 =>
  some when51) : Option Int).bind fun s48 =>
  (app s10.2 (s46, s48, q33, ((1 : Int) + (q43.1 / (2 : Int))), (decide ((q43.1 % (2 : Int)) = (0 : Int))))).bind fun x59 =>
  some (q43.2, x59)
def m_l_wild (d0 : (List Int)) (d1 : Int) (d2 : Int) (d3 : Int) : Option ((List (Int × Int × (List Int) × Int × Bool)) × (List Int)) :=
  (rngO 0 d1).bind fun g8 =>
  (forN (m_l_wild_b1 d2 d3) (d0, ([] : (List (Int × Int × (List Int) × Int × Bool)))) g8).bind fun s10 =>
  some (s10.2, s10.1)
def m_l_due_b1 (d0 : (List (Int × Int × (List Int) × Int × Bool))) (d1 : Int) (d2 : (List Int)) (s11 : (List Int)) (x14 : Int) : Option (List Int) :=
  ((at_ d0 x14).bind fun x17 =>
  (if (decide (x17.1 = d1)) = true then (at_ d0 x14).bind fun x33 => some (decide (x33.2.1 < (d2.length : Int))) else some false).bind fun b48 =>
  if b48 = true then (((at_ d0 x14).bind fun x50 =>
  (at_ d2 x50.2.1).bind fun x65 =>
  (at_ d0 x14).bind fun x66 =>
  (at_ d0 x14).bind fun x82 =>
  if (!(decide ((x66.2.2.1.contains x65) = x82.2.2.2.2))) = true then ((app s11 x14).bind fun x97 =>
  some x97) else (some s11) : Option (List Int)).bind fun s49 =>
  some s49) else (some s11) : Option (List Int)).bind fun s16 =>
  some s16
def m_l_due (d0 : (List (Int × Int × (List Int) × Int × Bool))) (d1 : Int) (d2 : (List Int)) : Option (List Int) :=
  (rngO 0 (d0.length : Int)).bind fun g9 =>
  (forN (m_l_due_b1 d0 d1 d2) ([] : (List Int)) g9).bind fun s11 =>
  some s11
def m_l_are_numbers_b1  (s3 : (List Int)) (x13 : Int) : Option (List Int) :=
  (m_l_int x13).bind fun q20 =>
  if (!q20) = true then ((app s3 x13).bind fun x23 =>
  some x23) else (some s3)
def m_l_are_numbers (d0 : (List Int)) (d1 : (List Int)) : Option Bool :=
  ( if true = true then (forN (m_l_are_numbers_b1) ([] : (List Int)) d0).bind fun s3 => if (decide ((s3.length : Int) = (0 : Int))) = true then some (decide (d0 = d1)) else some false else some false : Option Bool).bind fun b1 =>
  some b1
def m_l_stays_b1  (s2 : (List (Int × Int × (List Int) × Int × Bool))) (x13 : (Int × Int × (List Int) × Int × Bool)) : Option (List (Int × Int × (List Int) × Int × Bool)) :=
  (app s2 (x13.1, x13.2.1, x13.2.2.1, x13.2.2.2.1, x13.2.2.2.2)).bind fun x57 =>
  some x57
def m_l_stays (d0 : (List (Int × Int × (List Int) × Int × Bool))) (d1 : (List (Int × Int × (List Int) × Int × Bool))) : Option Bool :=
  (forN (m_l_stays_b1) ([] : (List (Int × Int × (List Int) × Int × Bool))) d0).bind fun s2 =>
  some (decide (s2 = d1))
def m_l_unmet_hold_b1 (d0 : (List (Int × Int × (List Int) × Int × Bool))) (d1 : (List (Int × Int × (List Int) × Int × Bool))) (d2 : (List Int)) (s12 : Unit) (x17 : Int) : Option (Bool ⊕ Unit) :=
  (m_l_due d1 x17 d2).bind fun q20 =>
  (m_unmet_0 d0 x17 d2).bind fun q32 =>
  (m_l_are_numbers q32 q20).bind fun q45 =>
  if (!q45) = true then
  (some (.inl false))
  else
  (app q32 (99 : Int)).bind fun x48 =>
  (m_unmet_1 d0 x17 d2).bind fun q55 =>
  (m_l_are_numbers q55 q20).bind fun q69 =>
  if (!q69) = true then
  (some (.inl false))
  else
  ((m_unmet_0 d0 x17 d2).bind fun q73 => (m_l_are_numbers q73 q20).bind fun q87 => if (!q87) = true then some true else some (!(decide (d2 = d2))) : Option Bool).bind fun b72 =>
  if b72 = true then
  (some (.inl false))
  else
  some (.inr ())
def m_l_unmet_hold (d0 : (List (Int × Int × (List Int) × Int × Bool))) (d1 : (List (Int × Int × (List Int) × Int × Bool))) (d2 : (List Int)) : Option Bool :=
  (rngO 0 (4 : Int)).bind fun g10 =>
  (forR (m_l_unmet_hold_b1 d0 d1 d2) () g10).bind fun e11 => orR e11 fun s12 =>
  (m_l_stays d0 d1).bind fun q90 =>
  some q90
def m_law_b1  (s53 : ((List Int) × (List Int))) (x62 : Int) : Option ((List Int) × (List Int)) :=
  (m_l_pick s53.2 (12 : Int)).bind fun q69 =>
  (app s53.1 q69.1).bind fun x72 =>
  some (x72, q69.2)
def m_law_b2  (s116 : (List (Int × Int × (List Int) × Int × Bool))) (x127 : (Int × Int × (List Int) × Int × Bool)) : Option (List (Int × Int × (List Int) × Int × Bool)) :=
  (m_Report_init x127.1 x127.2.1 x127.2.2.1 x127.2.2.2.1 x127.2.2.2.2).bind fun q198 =>
  (app s116 q198).bind fun x202 =>
  some x202
def m_law_b3  (s225 : (List Int)) (x228 : Int) : Option (List Int) :=
  (popL s225).bind fun x230 =>
  some x230.2
def m_law (d0 : (List Int)) : Option Bool :=
  (m_l_hand d0 (0 : Int)).bind fun q1 =>
  (m_l_pick q1 (2 : Int)).bind fun q16 =>
  (at_ [(9 : Int), (25 : Int)] q16.1).bind fun x19 =>
  (m_l_pick q16.2 x19).bind fun q22 =>
  (m_l_pick q22.2 (25 : Int)).bind fun q25 =>
  (m_l_pick q25.2 (2 : Int)).bind fun q35 =>
  (at_ [q22.1, q25.1] q35.1).bind fun x38 =>
  pyLet (((1 : Int) + x38) : Int) fun size41 =>
  (m_l_hand d0 (1 : Int)).bind fun q42 =>
  (rngO 0 size41).bind fun g51 =>
  (forN (m_law_b1) (([] : (List Int)), q42) g51).bind fun s53 =>
  (m_l_hand d0 (2 : Int)).bind fun q75 =>
  (m_l_pick q75 (8 : Int)).bind fun q93 =>
  (at_ [(13 : Int), (13 : Int), (13 : Int), (13 : Int), (13 : Int), (41 : Int), (13 : Int), (13 : Int)] q93.1).bind fun x96 =>
  (m_l_pick q93.2 x96).bind fun q99 =>
  (m_l_pick q99.2 (4 : Int)).bind fun q102 =>
  (m_l_wild q102.2 q99.1 q22.1 q102.1).bind fun q105 =>
  (forN (m_law_b2) ([] : (List (Int × Int × (List Int) × Int × Bool))) q105.1).bind fun s116 =>
  (m_l_unmet_hold s116 q105.1 s53.1).bind fun q205 =>
  if (!q205) = true then
  (some false)
  else
  (m_l_hand d0 (3 : Int)).bind fun q208 =>
  (m_l_pick q208 (s53.1.length : Int)).bind fun q220 =>
  (rngO 0 q220.1).bind fun g223 =>
  (forN (m_law_b3) s53.1 g223).bind fun s225 =>
  (m_l_unmet_hold s116 q105.1 s225).bind fun q235 =>
  if (!q235) = true then
  (some false)
  else
  (if (decide ((0 : Int) < (q105.1.length : Int))) = true then ((m_l_pick q220.2 (q105.1.length : Int)).bind fun q247 =>
  (guardO (decide (q105.1.length ≤ big))).bind fun z250 =>
  (popAt q105.1 q247.1).bind fun x251 =>
  (guardO (decide (s116.length ≤ big))).bind fun z258 =>
  (popAt s116 q247.1).bind fun x259 =>
  some (q247.2, x251.2, x259.2)) else (some (q220.2, q105.1, s116)) : Option ((List Int) × (List (Int × Int × (List Int) × Int × Bool)) × (List (Int × Int × (List Int) × Int × Bool)))).bind fun s238 =>
  (if (decide ((0 : Int) < (s238.2.1.length : Int))) = true then ((m_l_pick s238.1 (s238.2.1.length : Int)).bind fun q272 =>
  (at_ s238.2.1 q272.1).bind fun x275 =>
  (app s238.2.1 x275).bind fun x287 =>
  (at_ s238.2.2 q272.1).bind fun x299 =>
  (app s238.2.2 x299).bind fun x303 =>
  some (x287, x303)) else (some (s238.2.1, s238.2.2)) : Option ((List (Int × Int × (List Int) × Int × Bool)) × (List (Int × Int × (List Int) × Int × Bool)))).bind fun s264 =>
  (m_l_unmet_hold s264.2 s264.1 s225).bind fun q306 =>
  some q306
end Mi

namespace Mi
/-! ### draws -/
def Hd (h : List Int) : Prop := ∃ a b c : Int, h = [a, b, c] ∧ 0 ≤ a
theorem mod_ok {i j : Int} (h : 0 < j) : mod i j = some (i % j) := if_pos h
theorem fdiv_ok {i j : Int} (h : 0 < j) (h2 : j < 2 ^ 200) : fdiv i j = some (i / j) := if_pos ⟨h, h2⟩
theorem mul_okL {i j : Int} (h : -(2 ^ 64) < i) (h2 : i < 2 ^ 64) : mul i j = some (i * j) := if_pos (.inl ⟨h, h2⟩)
theorem mul_okR {i j : Int} (h : -(2 ^ 64) < j) (h2 : j < 2 ^ 64) : mul i j = some (i * j) := if_pos (.inr ⟨h, h2⟩)
theorem app_ok {α : Type} {xs : List α} {x : α} (h : xs.length < big) : app xs x = some (xs ++ [x]) := if_pos h
theorem cat_ok {α : Type} {xs ys : List α} (h : xs.length + ys.length ≤ big) : cat xs ys = some (xs ++ ys) := if_pos h
theorem rngO_ok {lo hi : Int} (h1 : -(2 ^ 60) ≤ lo) (h2 : lo < 2 ^ 60) (h3 : -(2 ^ 60) ≤ hi) (h4 : hi < 2 ^ 60) : rngO lo hi = some (rng lo hi) := if_pos ⟨⟨h1, h2⟩, h3, h4⟩
theorem rngDownO_ok {lo hi : Int} (h1 : -(2 ^ 60) ≤ lo) (h2 : lo < 2 ^ 60) (h3 : -(2 ^ 60) ≤ hi) (h4 : hi < 2 ^ 60) : rngDownO lo hi = some (rngDown lo hi) := if_pos ⟨⟨h1, h2⟩, h3, h4⟩
theorem at0 {α : Type} (a : α) (l : List α) : at_ (a :: l) 0 = some a := by
  unfold at_ ixN
  rw [if_pos (by decide), if_pos (by rw [List.length_cons]; omega)]
  rfl
theorem at_nat {α : Type} {xs : List α} {j : Nat} {x : α} (h : xs[j]? = some x) : at_ xs (j : Int) = some x := by
  have hj : j < xs.length := (List.getElem?_eq_some_iff.mp h).1
  unfold at_ ixN
  rw [if_pos (by omega), if_pos (by omega), Int.toNat_natCast]
  exact h
theorem at_int {α : Type} {xs : List α} {i : Int} {x : α} (h0 : 0 ≤ i) (h : xs[i.toNat]? = some x) : at_ xs i = some x := by
  have e : i = (i.toNat : Int) := by omega
  rw [e]; exact at_nat h
theorem at_some {α : Type} {xs : List α} {i : Int} (h0 : 0 ≤ i) (h1 : i < xs.length) : ∃ x, at_ xs i = some x ∧ xs[i.toNat]? = some x := by
  have hj : i.toNat < xs.length := by omega
  exact ⟨xs[i.toNat], at_int h0 (List.getElem?_eq_getElem hj), List.getElem?_eq_getElem hj⟩
theorem hand_ok (s : List Int) (k : Int) (hk : 0 ≤ k) : ∃ h, m_l_hand s k = some h ∧ Hd h := by
  simp only [m_l_hand, pyLet]
  have hc : ∃ c, (if decide (k < (s.length : Int)) = true then (at_ s k).bind fun x3 => some x3 else some 0 : Option Int) = some c := by
    by_cases h : k < (s.length : Int)
    · rw [if_pos (decide_eq_true h)]
      obtain ⟨x, hx, _⟩ := at_some hk h
      rw [hx]
      exact ⟨x, rfl⟩
    · rw [if_neg (by simpa using h)]
      exact ⟨0, rfl⟩
  obtain ⟨c, hc⟩ := hc
  rw [hc]
  show ∃ h, (Option.bind (if decide (c < 0) = true then some (1 - 2 * c) else some c) _) = some h ∧ Hd h
  have hd : ∃ d, (if decide (c < 0) = true then some (1 - 2 * c) else some c) = some d ∧ 0 ≤ d := by
    by_cases h : c < 0
    · rw [if_pos (decide_eq_true h)]
      exact ⟨_, rfl, by omega⟩
    · rw [if_neg (by simpa using h)]
      exact ⟨c, rfl, by omega⟩
  obtain ⟨d, hd, h0⟩ := hd
  rw [hd]
  show ∃ h, (Option.bind (if decide (((10 : Int) ^ 18) ≤ d) = true then some d else some 0) _) = some h ∧ Hd h
  by_cases h : ((10 : Int) ^ 18) ≤ d
  · rw [if_pos (decide_eq_true h)]
    exact ⟨_, rfl, _, _, _, rfl, h0⟩
  · rw [if_neg (by simpa using h)]
    exact ⟨_, rfl, _, _, _, rfl, by omega⟩
theorem pick_ok {h : List Int} (hh : Hd h) {n : Int} (hn : 1 ≤ n) (hN : n < 2 ^ 200) : ∃ r h', m_l_pick h n = some (r, h') ∧ 0 ≤ r ∧ r < n ∧ Hd h' := by
  obtain ⟨a, b, c, rfl, ha⟩ := hh
  have i0 : ∀ x y z : Int, at_ [x, y, z] 0 = some x := fun _ _ _ => rfl
  have i1 : ∀ x y z : Int, at_ [x, y, z] 1 = some y := fun _ _ _ => rfl
  have i2 : ∀ x y z : Int, at_ [x, y, z] 2 = some z := fun _ _ _ => rfl
  have s0 : ∀ x y z u : Int, setAt [x, y, z] 0 u = some [u, y, z] := fun _ _ _ _ => rfl
  have s2 : ∀ x y z u : Int, setAt [x, y, z] 2 u = some [x, y, u] := fun _ _ _ _ => rfl
  unfold m_l_pick pyLet
  rw [if_neg (by simp; omega)]
  simp only [i0, i1, i2, s0, s2, Option.bind_some]
  by_cases h : 0 < a
  · rw [if_pos (decide_eq_true h), mod_ok (by omega)]
    simp only [Option.bind_some]
    rw [fdiv_ok (by omega) hN]
    simp only [Option.bind_some, s0]
    exact ⟨_, _, rfl, Int.emod_nonneg _ (by omega), Int.emod_lt_of_pos _ (by omega), _, _, _, rfl, Int.ediv_nonneg ha (by omega)⟩
  · rw [if_neg (by simpa using h)]
    have m1 := Int.emod_nonneg (b + 7919 * (c + 1) + 13) (show (2147483647 : Int) ≠ 0 by decide)
    have m2 := Int.emod_lt_of_pos (b + 7919 * (c + 1) + 13) (show (0 : Int) < 2147483647 by decide)
    rw [mul_okL (by omega) (by omega)]
    simp only [Option.bind_some]
    have m3 := Int.emod_nonneg ((b + 7919 * (c + 1) + 13) % 2147483647 * ((b + 7919 * (c + 1) + 13) % 2147483647 + 48271)) (show (2147483629 : Int) ≠ 0 by decide)
    have m4 := Int.emod_lt_of_pos ((b + 7919 * (c + 1) + 13) % 2147483647 * ((b + 7919 * (c + 1) + 13) % 2147483647 + 48271)) (show (0 : Int) < 2147483629 by decide)
    rw [mul_okL (by omega) (by omega)]
    simp only [Option.bind_some]
    rw [mod_ok (by omega)]
    exact ⟨_, _, rfl, Int.emod_nonneg _ (by omega), Int.emod_lt_of_pos _ (by omega), _, _, _, rfl, ha⟩

/-! ### ranges and loops -/
theorem rng_nil {lo hi : Int} (h : hi ≤ lo) : rng lo hi = [] := by
  unfold rng
  have e : (hi - lo).toNat = 0 := by omega
  rw [e]; rfl
theorem rng_cons {lo hi : Int} (h : lo < hi) : rng lo hi = lo :: rng (lo + 1) hi := by
  unfold rng
  have e : (hi - lo).toNat = (hi - (lo + 1)).toNat + 1 := by omega
  rw [e, List.range_succ_eq_map, List.map_cons, List.map_map]
  congr 1
  · omega
  · apply List.map_congr_left
    intro k _
    show lo + ((k + 1 : Nat) : Int) = lo + 1 + (k : Int)
    omega
theorem rngDown_nil {lo hi : Int} (h : lo ≤ hi) : rngDown lo hi = [] := by
  unfold rngDown
  have e : (lo - hi).toNat = 0 := by omega
  rw [e]; rfl
theorem rngDown_cons {lo hi : Int} (h : hi < lo) : rngDown lo hi = lo :: rngDown (lo - 1) hi := by
  unfold rngDown
  have e : (lo - hi).toNat = (lo - 1 - hi).toNat + 1 := by omega
  rw [e, List.range_succ_eq_map, List.map_cons, List.map_map]
  congr 1
  · omega
  · apply List.map_congr_left
    intro k _
    show lo - ((k + 1 : Nat) : Int) = lo - 1 - (k : Int)
    omega
theorem rng_length (lo hi : Int) : (rng lo hi).length = (hi - lo).toNat := by unfold rng; rw [List.length_map, List.length_range]
theorem mem_rng {lo hi x : Int} : x ∈ rng lo hi ↔ lo ≤ x ∧ x < hi := by
  unfold rng
  rw [List.mem_map]
  constructor
  · rintro ⟨k, hk, rfl⟩
    rw [List.mem_range] at hk
    omega
  · intro h
    exact ⟨(x - lo).toNat, List.mem_range.mpr (by omega), by omega⟩
theorem at_app {α : Type} (pre : List α) (x : α) (post : List α) : at_ (pre ++ x :: post) (pre.length : Int) = some x := at_nat (by
  rw [List.getElem?_append_right (Nat.le_refl _), Nat.sub_self]; rfl)
/-- a loop that keeps P runs through -/
theorem forN_inv {α σ : Type} {f : σ → α → Option σ} (P : σ → Prop) : ∀ {xs : List α} {s : σ}, P s → (∀ s x, x ∈ xs → P s → ∃ s', f s x = some s' ∧ P s') → ∃ e, forN f s xs = some e ∧ P e
  | [], s, h0, _ => ⟨s, rfl, h0⟩
  | x :: xs, s, h0, h => by
    obtain ⟨s', e, h1⟩ := h s x (List.mem_cons_self ..) h0
    obtain ⟨e2, h2, h3⟩ := forN_inv P (xs := xs) h1 fun s y hy => h s y (List.mem_cons_of_mem _ hy)
    exact ⟨e2, by show (f s x).bind _ = _; rw [e]; exact h2, h3⟩
theorem forN_nil {α σ : Type} (f : σ → α → Option σ) (s : σ) : forN f s [] = some s := rfl
theorem forN_cons {α σ : Type} (f : σ → α → Option σ) (s : σ) (x : α) (xs : List α) : forN f s (x :: xs) = (f s x).bind fun s' => forN f s' xs := rfl
theorem forR_nil {α σ ρ : Type} (f : σ → α → Option (ρ ⊕ σ)) (s : σ) : forR f s [] = some (.inr s) := rfl
theorem forR_step {α σ ρ : Type} {f : σ → α → Option (ρ ⊕ σ)} {s s' : σ} {x : α} {xs : List α} (h : f s x = some (.inr s')) : forR f s (x :: xs) = forR f s' xs := by
  show (f s x).bind _ = _
  rw [h]; rfl
/-- a search that finds nothing to return -/
theorem forR_all {α ρ : Type} {f : Unit → α → Option (ρ ⊕ Unit)} : ∀ {xs : List α}, (∀ x ∈ xs, f () x = some (.inr ())) → forR f () xs = some (.inr ())
  | [], _ => rfl
  | x :: xs, h => by
    rw [forR_step (h x (List.mem_cons_self ..))]
    exact forR_all fun y hy => h y (List.mem_cons_of_mem _ hy)
/-- a loop that appends what h gives -/
theorem forN_flat {α β : Type} {f : List β → α → Option (List β)} (h : α → List β) (h1 : ∀ x, (h x).length ≤ 1) : ∀ {xs : List α} {acc : List β}, acc.length + xs.length ≤ big → (∀ acc x, x ∈ xs → acc.length < big → f acc x = some (acc ++ h x)) → forN f acc xs = some (acc ++ xs.flatMap h)
  | [], acc, _, _ => by rw [List.flatMap_nil, List.append_nil]; rfl
  | x :: xs, acc, hb, hf => by
    rw [List.length_cons] at hb
    rw [forN_cons, hf acc x (List.mem_cons_self ..) (by omega), Option.bind_some, forN_flat h h1 (by rw [List.length_append]; have := h1 x; omega) fun a y hy => hf a y (List.mem_cons_of_mem _ hy), List.flatMap_cons, List.append_assoc]
/-- a walk by index is a walk over the pairs -/
theorem forN_index {α σ : Type} {f : σ → Int → Option σ} {g : σ → Int × α → Option σ} : ∀ (suf pre : List α) (s : σ), (∀ s (k : Nat) x, (pre ++ suf)[k]? = some x → f s (k : Int) = g s ((k : Int), x)) → forN f s (rng (pre.length : Int) ((pre ++ suf).length : Int)) = forN g s (enumF (pre.length : Int) suf)
  | [], pre, s, _ => by rw [rng_nil (by rw [List.append_nil]; omega)]; rfl
  | x :: suf, pre, s, h => by
    rw [rng_cons (by rw [List.length_append, List.length_cons]; omega)]
    show (f s (pre.length : Int)).bind _ = (g s ((pre.length : Int), x)).bind _
    rw [h s pre.length x (by rw [List.getElem?_append_right (Nat.le_refl _), Nat.sub_self]; rfl)]
    congr 1
    funext s'
    have e : pre ++ x :: suf = (pre ++ [x]) ++ suf := by rw [List.append_assoc]; rfl
    have e2 : ((pre ++ [x]).length : Int) = (pre.length : Int) + 1 := by rw [List.length_append]; rfl
    have z := forN_index suf (pre ++ [x]) s' (f := f) (g := g) (fun s k y hy => h s k y (by rw [e]; exact hy))
    rw [e2] at z
    rw [e]; exact z
theorem forN_index0 {α σ : Type} {f : σ → Int → Option σ} {g : σ → Int × α → Option σ} (xs : List α) (s : σ) (h : ∀ s (k : Nat) x, xs[k]? = some x → f s (k : Int) = g s ((k : Int), x)) : forN f s (rng 0 (xs.length : Int)) = forN g s (enumF 0 xs) := forN_index xs [] s h
theorem enumF_length {α : Type} : ∀ (k : Int) (xs : List α), (enumF k xs).length = xs.length
  | _, [] => rfl
  | k, _ :: ys => by show (enumF (k + 1) ys).length + 1 = ys.length + 1; rw [enumF_length]
theorem enumF_mem {α : Type} : ∀ (k : Int) (xs : List α) {p : Int × α}, p ∈ enumF k xs → p.2 ∈ xs
  | _, [], _, h => by cases h
  | k, y :: ys, p, h => by
    rcases List.mem_cons.mp h with rfl | h
    · exact List.mem_cons_self ..
    · exact List.mem_cons_of_mem _ (enumF_mem (k + 1) ys h)
theorem sortI_self {xs : List Int} (h : xs.Pairwise (· ≤ ·)) : sortI xs = xs := List.mergeSort_of_pairwise (List.Pairwise.imp (fun z => decide_eq_true z) h)
theorem at_mem {α : Type} {xs : List α} {i : Int} (h0 : 0 ≤ i) (h1 : i < xs.length) : ∃ x, at_ xs i = some x ∧ x ∈ xs := by
  obtain ⟨x, e, g⟩ := at_some h0 h1
  exact ⟨x, e, List.mem_of_getElem? g⟩
theorem popAt_ok {α : Type} {xs : List α} {i : Int} (h0 : 0 ≤ i) (h1 : i < xs.length) : ∃ x, popAt xs i = some (x, xs.eraseIdx i.toNat) := by
  have hj : i.toNat < xs.length := by omega
  refine ⟨xs[i.toNat], ?_⟩
  unfold popAt ixN
  rw [if_pos h0, if_pos h1, Option.bind_some, List.getElem?_eq_getElem hj]
  rfl
theorem guard_ok {c : Bool} (h : c = true) : guardO c = some () := if_pos h
theorem pairwise_flat {α : Type} {r : α → α → Prop} {h : α → List α} (hs : ∀ x, h x = [] ∨ h x = [x]) : ∀ {xs : List α}, xs.Pairwise r → (xs.flatMap h).Pairwise r ∧ ∀ y ∈ xs.flatMap h, y ∈ xs
  | [], _ => ⟨by rw [List.flatMap_nil]; exact .nil, fun y hy => by rw [List.flatMap_nil] at hy; exact hy⟩
  | x :: xs, p => by
    have pc := List.pairwise_cons.mp p
    obtain ⟨i1, i2⟩ := pairwise_flat hs pc.2
    rw [List.flatMap_cons]
    rcases hs x with e | e
    · rw [e, List.nil_append]
      exact ⟨i1, fun y hy => List.mem_cons_of_mem _ (i2 y hy)⟩
    · rw [e]
      refine ⟨List.pairwise_cons.mpr ⟨fun y hy => pc.1 y (i2 y hy), i1⟩, fun y hy => ?_⟩
      rcases List.mem_cons.mp hy with rfl | hy
      · exact List.mem_cons_self ..
      · exact List.mem_cons_of_mem _ (i2 y hy)
theorem rng_lt (lo hi : Int) : (rng lo hi).Pairwise (· < ·) := by
  unfold rng
  rw [List.pairwise_map]
  exact List.Pairwise.imp (fun h => by omega) List.pairwise_lt_range
theorem bd {α β : Type} {m : Option α} {f : α → Option β} {x : α} {r : Option β} (h : m = some x) (k : f x = r) : m.bind f = r := by rw [h]; exact k
theorem le_big {n : Nat} (h : n ≤ 100000) : n ≤ big := Nat.le_trans h (by decide)
theorem lt_big {n : Nat} (h : n ≤ 100000) : n < big := Nat.lt_of_le_of_lt h (by decide)
theorem flat_one {α : Type} : ∀ xs : List α, xs.flatMap (fun x => [x]) = xs
  | [] => rfl
  | x :: xs => by rw [List.flatMap_cons, flat_one xs]; rfl
theorem flat_le {α β : Type} {h : α → List β} (h1 : ∀ x, (h x).length ≤ 1) : ∀ xs : List α, (xs.flatMap h).length ≤ xs.length
  | [] => Nat.le_refl _
  | x :: xs => by rw [List.flatMap_cons, List.length_append, List.length_cons]; have := h1 x; have := flat_le h1 xs; omega
theorem ift {α : Type} {b : Bool} {x y r : Option α} (h : b = true) (k : x = r) : (if b = true then x else y) = r := by rw [if_pos h]; exact k
theorem iff' {α : Type} {b : Bool} {x y r : Option α} (h : b = false) (k : y = r) : (if b = true then x else y) = r := by rw [h, if_neg Bool.false_ne_true]; exact k

abbrev Nt := Int × Int × List Int × Int × Bool
def Zn (z : List Int) : Prop := z.Pairwise (· < ·) ∧ ∀ x ∈ z, 0 ≤ x ∧ x < 12
def Gd (n : Nt) : Prop := 0 ≤ n.1 ∧ n.1 ≤ 3 ∧ 0 ≤ n.2.1 ∧ n.2.1 ≤ 24 ∧ Zn n.2.2.1 ∧ 1 ≤ n.2.2.2.1 ∧ n.2.2.2.1 ≤ 99
theorem places_ok (c : Int) : ∃ z, m_l_places c = some z ∧ Zn z := by
  simp only [m_l_places, pyLet]
  have j1 : ∃ b : Int, (if decide (c % 6 = 0) = true then some (0 : Int) else some (c / 6)) = some b := by split <;> exact ⟨_, rfl⟩
  obtain ⟨b, e1⟩ := j1
  rw [e1]; simp only [Option.bind_some]
  have j2 : ∃ b2 : Int, (if decide (c % 6 = 1) = true then some (4095 : Int) else some b) = some b2 := by split <;> exact ⟨_, rfl⟩
  obtain ⟨b2, e2⟩ := j2
  rw [e2]; simp only [Option.bind_some]
  have m0 := Int.emod_nonneg b2 (show (12 : Int) ≠ 0 by decide)
  have m1 := Int.emod_lt_of_pos b2 (show (0 : Int) < 12 by decide)
  have j3 : ∃ b3 : Int, (if decide (c % 6 = 2) = true then (shl 1 (b2 % 12)).bind fun x8 => some x8 else some b2) = some b3 := by
    split
    · rw [show shl 1 (b2 % 12) = some (1 * 2 ^ (b2 % 12).toNat) from if_pos ⟨m0, by omega, by decide, by decide⟩]
      exact ⟨_, rfl⟩
    · exact ⟨_, rfl⟩
  obtain ⟨b3, e3⟩ := j3
  rw [e3]; simp only [Option.bind_some]
  rw [rngO_ok (by decide) (by decide) (by decide) (by decide)]; simp only [Option.bind_some]
  rw [forN_flat (h := fun x => if b3 / 2 ^ x.toNat % 2 = 1 then [x] else []) (fun x => by split <;> simp) (by rw [rng_length]; decide) (fun acc x hx hb => by
    have hx0 := (mem_rng.mp hx).1
    simp only [m_l_places_b1]
    rw [show shr b3 x = some (b3 / 2 ^ x.toNat) from if_pos hx0]
    simp only [Option.bind_some]
    by_cases h : b3 / 2 ^ x.toNat % 2 = 1
    · rw [if_pos (decide_eq_true h), app_ok hb, if_pos h]; rfl
    · rw [if_neg (by simpa using h), if_neg h, List.append_nil])]
  simp only [Option.bind_some]
  obtain ⟨p1, p2⟩ := pairwise_flat (r := (· < ·)) (h := fun x : Int => if b3 / 2 ^ x.toNat % 2 = 1 then [x] else []) (fun x => by by_cases h : b3 / 2 ^ x.toNat % 2 = 1 <;> simp [h]) (rng_lt 0 12)
  exact ⟨_, rfl, p1, fun x hx => mem_rng.mp (p2 x hx)⟩
theorem wild_ok {h : List Int} (hh : Hd h) {cnt last num : Int} (c0 : 0 ≤ cnt) (c1 : cnt ≤ 50) (l0 : 0 ≤ last) (l1 : last ≤ 24) (n0 : 0 ≤ num) (n1 : num ≤ 3) : ∃ N h', m_l_wild h cnt last num = some (N, h') ∧ (∀ n ∈ N, Gd n) ∧ N.length ≤ 50 ∧ Hd h' := by
  simp only [m_l_wild]
  rw [rngO_ok (by decide) (by decide) (by omega) (by omega)]; simp only [Option.bind_some]
  have key : ∀ (ks : List Int) (h : List Int) (N : List Nt), Hd h → (∀ n ∈ N, Gd n) → N.length + ks.length ≤ 50 → ∃ h' N', forN (m_l_wild_b1 last num) (h, N) ks = some (h', N') ∧ (∀ n ∈ N', Gd n) ∧ N'.length ≤ 50 ∧ Hd h' := by
    intro ks
    induction ks with
    | nil => intro h N hh hN hl; exact ⟨h, N, rfl, hN, by simpa using hl, hh⟩
    | cons k ks ih =>
      intro h N hh hN hl
      rw [List.length_cons] at hl
      rw [forN_cons]
      simp only [m_l_wild_b1, pyLet]
      obtain ⟨a, h1, e1, a0, a1, hh1⟩ := pick_ok hh (n := 12) (by decide) (by decide)
      rw [e1]; simp only [Option.bind_some]
      obtain ⟨b, h2, e2, b0, b1, hh2⟩ := pick_ok hh1 (n := 100) (by decide) (by decide)
      rw [e2]; simp only [Option.bind_some]
      obtain ⟨c, h3, e3, c0, c1, hh3⟩ := pick_ok hh2 (n := 24576) (by decide) (by decide)
      rw [e3]; simp only [Option.bind_some]
      obtain ⟨z, e4, hz⟩ := places_ok c
      rw [e4]; simp only [Option.bind_some]
      obtain ⟨w, h5, e5, w0, w1, hh5⟩ := pick_ok hh3 (n := 198) (by decide) (by decide)
      rw [e5]; simp only [Option.bind_some]
      have j1 : ∃ x : Int, (if decide (3 < a) = true then some num else some a) = some x ∧ 0 ≤ x ∧ x ≤ 3 := by
        by_cases q : 3 < a
        · rw [if_pos (decide_eq_true q)]; exact ⟨_, rfl, n0, n1⟩
        · rw [if_neg (by simpa using q)]; exact ⟨_, rfl, a0, by omega⟩
      obtain ⟨x, e6, x0, x1⟩ := j1
      rw [e6]; simp only [Option.bind_some]
      have j2 : ∃ y : Int, (if decide (b < 75) = true then (mod b (last + 1)).bind fun x49 => some x49 else some (b - 75)) = some y ∧ 0 ≤ y ∧ y ≤ 24 := by
        by_cases q : b < 75
        · rw [if_pos (decide_eq_true q), mod_ok (by omega)]
          have m0 := Int.emod_nonneg b (show last + 1 ≠ 0 by omega)
          have m1 := Int.emod_lt_of_pos b (show 0 < last + 1 by omega)
          exact ⟨_, rfl, m0, by omega⟩
        · rw [if_neg (by simpa using q)]; exact ⟨_, rfl, by omega, by omega⟩
      obtain ⟨y, e7, y0, y1⟩ := j2
      rw [e7]; simp only [Option.bind_some]
      rw [app_ok (show N.length < big by show N.length < 1000000; omega)]; simp only [Option.bind_some]
      refine ih h5 _ hh5 (fun n hn => ?_) (by rw [List.length_append]; show N.length + 1 + ks.length ≤ 50; omega)
      rcases List.mem_append.mp hn with hn | hn
      · exact hN n hn
      · obtain rfl := List.mem_singleton.mp hn
        exact ⟨x0, x1, y0, y1, hz, by show 1 ≤ 1 + w / 2; omega, by show 1 + w / 2 ≤ 99; omega⟩
  obtain ⟨h', N', e, p1, p2, p3⟩ := key (rng 0 cnt) h [] hh (fun n hn => by cases hn) (by rw [rng_length]; show 0 + (cnt - 0).toNat ≤ 50; omega)
  rw [e]; exact ⟨N', h', rfl, p1, p2, p3⟩
theorem zone_ok {z : List Int} (h : Zn z) : m_is_zone_0 z 12 = some true := by
  simp only [m_is_zone_0]
  have key : ∀ (suf pre : List Int), (pre ++ suf).Pairwise (· < ·) → (∀ x ∈ pre ++ suf, 0 ≤ x ∧ x < 12) → pre.length + suf.length ≤ 12 → ∃ e, forR (m_is_zone_0_b1 12) pre suf = some (.inr e) := by
    intro suf
    induction suf with
    | nil => intro pre _ _ _; exact ⟨pre, rfl⟩
    | cons x suf ih =>
      intro pre hp hb hl
      rw [List.length_cons] at hl
      have hx := hb x (List.mem_append_right _ (List.mem_cons_self ..))
      have hni : x ∉ pre := fun hm => by
        have := (List.pairwise_append.mp hp).2.2 x hm x (List.mem_cons_self ..)
        omega
      have hc : pre.contains x = false := by rw [List.contains_eq_mem]; exact decide_eq_false hni
      have e : m_is_zone_0_b1 12 pre x = some (.inr (pre ++ [x])) := by
        simp only [m_is_zone_0_b1]
        have c1 : ¬ x < 0 := by omega
        have c2 : ¬ 12 ≤ x := by omega
        simp only [c1, c2, hc, decide_false, Bool.or_self, Bool.false_eq_true, if_false]
        rw [show sadd pre x = some (if pre.contains x = true then pre else pre ++ [x]) from if_pos (by omega), hc]
        rfl
      rw [forR_step e]
      have ea : pre ++ x :: suf = (pre ++ [x]) ++ suf := by rw [List.append_assoc]; rfl
      rw [ea] at hp hb
      exact ih _ hp hb (by rw [List.length_append]; show pre.length + 1 + suf.length ≤ 12; omega)
  have hlen : z.length ≤ 12 := by
    have h2 : ∀ (n : Nat) (l : List Int) (lo : Int), l.Pairwise (· < ·) → (∀ x ∈ l, lo ≤ x ∧ x < lo + n) → l.length ≤ n := by
      intro n
      induction n with
      | zero =>
        intro l lo _ hb
        cases l with
        | nil => exact Nat.le_refl _
        | cons x l => have := hb x (List.mem_cons_self ..); omega
      | succ n ih =>
        intro l lo hp hb
        cases l with
        | nil => exact Nat.zero_le _
        | cons x l =>
          have hx := hb x (List.mem_cons_self ..)
          have pc := List.pairwise_cons.mp hp
          have := ih l (lo + 1) pc.2 (fun y hy => by
            have h1 := pc.1 y hy
            have h2 := hb y (List.mem_cons_of_mem _ hy)
            omega)
          rw [List.length_cons]; omega
    exact h2 12 z 0 h.1 (fun x hx => by have := h.2 x hx; omega)
  obtain ⟨e, he⟩ := key z [] h.1 h.2 (by simpa using hlen)
  rw [he]; rfl
theorem init_ok {n : Nt} (h : Gd n) : m_Report_init n.1 n.2.1 n.2.2.1 n.2.2.2.1 n.2.2.2.2 = some n := by
  obtain ⟨h1, h2, h3, h4, h5, h6, h7⟩ := h
  simp only [m_Report_init]
  have a1 : ¬ n.1 < 0 := by omega
  have a2 : ¬ 3 < n.1 := by omega
  have a3 : ¬ n.2.1 < 0 := by omega
  have a4 : ¬ 24 < n.2.1 := by omega
  have a5 : ¬ n.2.2.2.1 < 1 := by omega
  have a6 : ¬ 99 < n.2.2.2.1 := by omega
  simp only [a1, a2, a3, a4, a5, a6, decide_false, Bool.or_self, Bool.false_eq_true, if_false, zone_ok h5, Option.bind_some, Bool.not_true, m_ascending]
  rw [sortI_self (List.Pairwise.imp (fun z => by omega) h5.1)]
def dueOf (ship : Int) (path : List Int) (p : Int × Nt) : List Int :=
  if p.2.1 = ship ∧ p.2.2.1 < (path.length : Int) ∧ (p.2.2.2.1.contains (path[p.2.2.1.toNat]?.getD 0)) ≠ p.2.2.2.2.2 then [p.1] else []
theorem dueOf_le (ship : Int) (path : List Int) (p : Int × Nt) : (dueOf ship path p).length ≤ 1 := by unfold dueOf; split <;> simp
theorem path_at {path : List Int} {i : Int} (h0 : 0 ≤ i) (h1 : i < path.length) : at_ path i = some (path[i.toNat]?.getD 0) := by
  obtain ⟨x, e, g⟩ := at_some h0 h1
  rw [e, g]; rfl
theorem unmet_step {ship : Int} {path : List Int} {acc : List Int} {p : Int × Nt} (hg : Gd p.2) (hb : acc.length < big) : m_unmet_0_b1 ship path acc p = some (acc ++ dueOf ship path p) := by
  simp only [m_unmet_0_b1, dueOf]
  by_cases c1 : p.2.1 = ship
  · by_cases c2 : p.2.2.1 < (path.length : Int)
    · have c3 : ¬ (path.length : Int) ≤ p.2.2.1 := by omega
      have hat := path_at hg.2.2.1 c2
      simp only [c1, c3, decide_true, decide_false, Bool.not_true, Bool.or_self, Bool.false_eq_true, if_false, hat, Option.bind_some, m_Report_allows, c2, true_and]
      by_cases c4 : p.2.2.2.1.contains (path[p.2.2.1.toNat]?.getD 0) = p.2.2.2.2.2
      · simp only [c4, decide_true, Bool.not_true, Bool.false_eq_true, if_false, ne_eq, not_true_eq_false, List.append_nil, Option.bind_some]
      · simp only [c4, decide_false, Bool.not_false, if_true, ne_eq, not_false_eq_true, app_ok hb, Option.bind_some]
    · have c3 : (path.length : Int) ≤ p.2.2.1 := by omega
      simp only [c1, c2, c3, decide_true, Bool.not_true, Bool.or_true, if_true, false_and, and_false, if_false, List.append_nil]
  · simp only [c1, decide_false, Bool.not_false, Bool.true_or, if_true, false_and, if_false, List.append_nil]
theorem unmet_ok {N : List Nt} (hN : ∀ n ∈ N, Gd n) (hl : N.length ≤ 100) (ship : Int) (path : List Int) : m_unmet_0 N ship path = some ((enumF 0 N).flatMap (dueOf ship path)) := by
  simp only [m_unmet_0]
  rw [forN_flat (dueOf ship path) (dueOf_le ship path) (by rw [enumF_length]; show 0 + N.length ≤ 1000000; omega) fun acc p hp hb => unmet_step (hN _ (enumF_mem 0 N hp)) hb]
  rfl
theorem due_ok {N : List Nt} (hN : ∀ n ∈ N, Gd n) (hl : N.length ≤ 100) (ship : Int) (path : List Int) : m_l_due N ship path = some ((enumF 0 N).flatMap (dueOf ship path)) := by
  simp only [m_l_due]
  rw [rngO_ok (by decide) (by decide) (by omega) (by omega)]; simp only [Option.bind_some]
  rw [forN_index0 (g := m_unmet_0_b1 ship path) N [] (fun acc k x hx => ?_)]
  · rw [forN_flat (dueOf ship path) (dueOf_le ship path) (by rw [enumF_length]; show 0 + N.length ≤ 1000000; omega) fun acc p hp hb => unmet_step (hN _ (enumF_mem 0 N hp)) hb]
    rfl
  · have hg := hN x (List.mem_of_getElem? hx)
    simp only [m_l_due_b1, at_nat hx, Option.bind_some, m_unmet_0_b1]
    by_cases c1 : x.1 = ship
    · by_cases c2 : x.2.1 < (path.length : Int)
      · have c3 : ¬ (path.length : Int) ≤ x.2.1 := by omega
        have hat := path_at hg.2.2.1 c2
        simp only [c1, c2, c3, decide_true, decide_false, if_true, Bool.not_true, Bool.or_self, Bool.false_eq_true, if_false, Option.bind_some, hat, m_Report_allows]
        cases hq : decide (x.2.2.1.contains (path[x.2.1.toNat]?.getD 0) = x.2.2.2.2) <;> simp only [Bool.not_true, Bool.not_false, if_true, Bool.false_eq_true, if_false, Option.bind_some] <;> (try (cases app acc (k : Int) <;> rfl))
      · have c3 : (path.length : Int) ≤ x.2.1 := by omega
        simp only [c1, c2, c3, decide_true, decide_false, if_true, Bool.not_true, Bool.or_true, Bool.false_eq_true, if_false, Option.bind_some]
    · simp only [c1, decide_false, Bool.not_false, Bool.true_or, if_true, Bool.false_eq_true, if_false, Option.bind_some]
theorem numbers_ok (xs : List Int) (hl : xs.length ≤ big) : m_l_are_numbers xs xs = some true := by
  simp only [m_l_are_numbers, if_true]
  rw [forN_flat (h := fun _ => ([] : List Int)) (fun _ => by simp) (by simpa using hl) (fun acc x _ _ => by simp [m_l_are_numbers_b1, m_l_int])]
  simp [List.flatMap_nil]
theorem hold_step {N : List Nt} (hN : ∀ n ∈ N, Gd n) (hl : N.length ≤ 100) (path : List Int) (ship : Int) : m_l_unmet_hold_b1 N N path () ship = some (.inr ()) := by
  have hD : ((enumF 0 N).flatMap (dueOf ship path)).length ≤ 100000 := by
    have h1 := flat_le (dueOf_le ship path) (enumF 0 N)
    rw [enumF_length] at h1; omega
  have e1 : m_unmet_1 N ship path = m_unmet_0 N ship path := rfl
  unfold m_l_unmet_hold_b1
  rw [e1, due_ok hN hl, unmet_ok hN hl]
  generalize (enumF 0 N).flatMap (dueOf ship path) = D at hD
  refine bd rfl (bd rfl (bd (numbers_ok D (le_big hD)) ?_))
  refine bd (app_ok (lt_big hD)) (bd rfl (bd (numbers_ok D (le_big hD)) ?_))
  show Option.bind _ _ = _
  refine bd (x := false) (bd rfl (bd (numbers_ok D (le_big hD)) ?_)) rfl
  show some (!decide (path = path)) = some false
  rw [decide_eq_true rfl]; rfl
theorem hold_ok {N : List Nt} (hN : ∀ n ∈ N, Gd n) (hl : N.length ≤ 100) (path : List Int) : m_l_unmet_hold N N path = some true := by
  unfold m_l_unmet_hold
  refine bd (rngO_ok (by decide) (by decide) (by decide) (by decide)) (bd (forR_all fun ship _ => hold_step hN hl path ship) ?_)
  refine bd (x := true) ?_ rfl
  unfold m_l_stays
  refine bd (forN_flat (h := fun n => [n]) (fun _ => by simp) (by show 0 + N.length ≤ big; exact le_big (by omega)) (fun acc x _ hb => bd (app_ok hb) rfl)) ?_
  show some (decide ([] ++ N.flatMap (fun n => [n]) = N)) = some true
  rw [flat_one, List.nil_append, decide_eq_true rfl]
theorem made_ok {N : List Nt} (hN : ∀ n ∈ N, Gd n) (hl : N.length ≤ 100) : forN m_law_b2 [] N = some N := by
  have key : ∀ (suf pre : List Nt), (∀ n ∈ suf, Gd n) → pre.length + suf.length ≤ 100 → forN m_law_b2 pre suf = some (pre ++ suf) := by
    intro suf
    induction suf with
    | nil => intro pre _ _; rw [List.append_nil]; rfl
    | cons x suf ih =>
      intro pre hs hl
      rw [List.length_cons] at hl
      rw [forN_cons]
      simp only [m_law_b2, init_ok (hs x (List.mem_cons_self ..)), Option.bind_some, app_ok (show pre.length < big by show pre.length < 1000000; omega)]
      rw [ih _ (fun n hn => hs n (List.mem_cons_of_mem _ hn)) (by rw [List.length_append]; show pre.length + 1 + suf.length ≤ 100; omega), List.append_assoc]
      rfl
  exact key N [] hN (by simpa using hl)
theorem pops_ok : ∀ (ks path : List Int), ks.length ≤ path.length → ∃ p, forN m_law_b3 path ks = some p
  | [], path, _ => ⟨path, rfl⟩
  | k :: ks, path, h => by
    rw [List.length_cons] at h
    rw [forN_cons]
    have hj : path.length - 1 < path.length := by omega
    simp only [m_law_b3]
    rw [show popL path = some (path[path.length - 1], path.dropLast) by unfold popL; rw [List.getElem?_eq_getElem hj]; rfl]
    simp only [Option.bind_some]
    exact pops_ok ks _ (by rw [List.length_dropLast]; omega)
theorem path_ok : ∀ (ks : List Int) (h acc : List Int), Hd h → acc.length + ks.length ≤ 100 → ∃ p h', forN m_law_b1 (acc, h) ks = some (p, h') ∧ p.length = acc.length + ks.length
  | [], h, acc, _, _ => ⟨acc, h, rfl, rfl⟩
  | k :: ks, h, acc, hh, hl => by
    rw [List.length_cons] at hl
    rw [forN_cons]
    obtain ⟨a, h1, e1, a0, a1, hh1⟩ := pick_ok hh (n := 12) (by decide) (by decide)
    simp only [m_law_b1, e1, Option.bind_some, app_ok (show acc.length < big by show acc.length < 1000000; omega)]
    obtain ⟨p, h', e, l⟩ := path_ok ks h1 (acc ++ [a]) hh1 (by rw [List.length_append]; show acc.length + 1 + ks.length ≤ 100; omega)
    refine ⟨p, h', e, ?_⟩
    rw [l, List.length_append, List.length_cons]
    show acc.length + 1 + ks.length = acc.length + (ks.length + 1)
    omega
theorem law_true (s : List Int) (hs : s.length ≤ 63) : m_law s = some true := by
  unfold m_law
  obtain ⟨h0, e0, hh0⟩ := hand_ok s 0 (by decide)
  refine bd e0 ?_
  obtain ⟨a, h1, e1, a0, a1, hh1⟩ := pick_ok hh0 (n := 2) (by decide) (by decide)
  refine bd e1 ?_
  obtain ⟨m, em, hm⟩ := at_mem (xs := [(9 : Int), 25]) a0 a1
  refine bd em ?_
  have hm' : m = 9 ∨ m = 25 := by simpa using hm
  obtain ⟨last, h2, e2, l0, l1, hh2⟩ := pick_ok hh1 (n := m) (by omega) (by omega)
  refine bd e2 ?_
  obtain ⟨b, h3, e3, b0, b1, hh3⟩ := pick_ok hh2 (n := 25) (by decide) (by decide)
  refine bd e3 ?_
  obtain ⟨c, h4, e4, c0, c1, hh4⟩ := pick_ok hh3 (n := 2) (by decide) (by decide)
  refine bd e4 ?_
  obtain ⟨x, ex, hx⟩ := at_mem (xs := [last, b]) c0 c1
  refine bd ex ?_
  have hx' : x = last ∨ x = b := by simpa using hx
  obtain ⟨h5, e5, hh5⟩ := hand_ok s 1 (by decide)
  refine bd e5 ?_
  refine bd (rngO_ok (by decide) (by decide) (by omega) (by omega)) ?_
  obtain ⟨path, h6, e6, lp⟩ := path_ok (rng 0 (1 + x)) h5 [] hh5 (by rw [rng_length]; show 0 + (1 + x - 0).toNat ≤ 100; omega)
  refine bd e6 ?_
  have lp' : path.length = (1 + x).toNat := by rw [lp, rng_length]; show 0 + (1 + x - 0).toNat = _; omega
  obtain ⟨h7, e7, hh7⟩ := hand_ok s 2 (by decide)
  refine bd e7 ?_
  obtain ⟨d, h8, e8, d0, d1, hh8⟩ := pick_ok hh7 (n := 8) (by decide) (by decide)
  refine bd e8 ?_
  obtain ⟨y, ey, hy⟩ := at_mem (xs := [(13 : Int), 13, 13, 13, 13, 41, 13, 13]) d0 d1
  refine bd ey ?_
  have hy' : y = 13 ∨ y = 41 := by
    simp only [List.mem_cons, List.not_mem_nil, or_false] at hy
    omega
  obtain ⟨cnt, h9, e9, n0, n1, hh9⟩ := pick_ok hh8 (n := y) (by omega) (by omega)
  refine bd e9 ?_
  obtain ⟨num, h10, e10, u0, u1, hh10⟩ := pick_ok hh9 (n := 4) (by decide) (by decide)
  refine bd e10 ?_
  obtain ⟨N, h11, e11, hN, hl, _⟩ := wild_ok hh10 (cnt := cnt) (last := last) (num := num) n0 (by omega) l0 (by omega) u0 (by omega)
  refine bd e11 ?_
  refine bd (made_ok (N := N) hN (by omega)) ?_
  refine bd (hold_ok (N := N) hN (by omega) path) (iff' rfl ?_)
  obtain ⟨h12, e12, hh12⟩ := hand_ok s 3 (by decide)
  refine bd e12 ?_
  obtain ⟨t, h13, e13, t0, t1, hh13⟩ := pick_ok hh12 (n := (path.length : Int)) (by omega) (by omega)
  refine bd e13 ?_
  refine bd (rngO_ok (by decide) (by decide) (by omega) (by omega)) ?_
  obtain ⟨path2, e14⟩ := pops_ok (rng 0 t) path (by rw [rng_length]; omega)
  refine bd e14 ?_
  refine bd (hold_ok (N := N) hN (by omega) path2) (iff' rfl ?_)
  have j1 : ∃ (h : List Int) (N2 : List Nt), (if decide ((0 : Int) < (N.length : Int)) = true then (m_l_pick h13 (N.length : Int)).bind fun q247 =>
      (guardO (decide (N.length ≤ big))).bind fun z250 => (popAt N q247.1).bind fun x251 => (guardO (decide (N.length ≤ big))).bind fun z258 => (popAt N q247.1).bind fun x259 => some (q247.2, x251.2, x259.2)
      else some (h13, N, N)) = some (h, N2, N2) ∧ Hd h ∧ (∀ n ∈ N2, Gd n) ∧ N2.length ≤ 50 := by
    by_cases c : (0 : Int) < (N.length : Int)
    · rw [if_pos (decide_eq_true c)]
      obtain ⟨r, h', e, r0, r1, hh'⟩ := pick_ok hh13 (n := (N.length : Int)) (by omega) (by omega)
      rw [e]; simp only [Option.bind_some]
      rw [guard_ok (decide_eq_true (le_big (show N.length ≤ 100000 by omega)))]; simp only [Option.bind_some]
      obtain ⟨v, ev⟩ := popAt_ok (xs := N) r0 r1
      rw [ev]
      refine ⟨h', N.eraseIdx r.toNat, rfl, hh', fun n hn => hN n (List.mem_of_mem_eraseIdx hn), ?_⟩
      have := List.length_eraseIdx_le N r.toNat
      omega
    · rw [if_neg (by simpa using c)]
      exact ⟨h13, N, rfl, hh13, hN, hl⟩
  obtain ⟨h14, N2, e15, hh14, hN2, hl2⟩ := j1
  refine bd e15 ?_
  have j2 : ∃ N3 : List Nt, (if decide ((0 : Int) < (N2.length : Int)) = true then (m_l_pick h14 (N2.length : Int)).bind fun q272 => (at_ N2 q272.1).bind fun x275 => (app N2 x275).bind fun x287 => (at_ N2 q272.1).bind fun x299 => (app N2 x299).bind fun x303 => some (x287, x303)
      else some (N2, N2)) = some (N3, N3) ∧ (∀ n ∈ N3, Gd n) ∧ N3.length ≤ 100 := by
    by_cases c : (0 : Int) < (N2.length : Int)
    · rw [if_pos (decide_eq_true c)]
      obtain ⟨r, h', e, r0, r1, hh'⟩ := pick_ok hh14 (n := (N2.length : Int)) (by omega) (by omega)
      rw [e]; simp only [Option.bind_some]
      obtain ⟨v, ev, hv⟩ := at_mem (xs := N2) r0 r1
      rw [ev]; simp only [Option.bind_some]
      rw [app_ok (show N2.length < big by show N2.length < 1000000; omega)]
      refine ⟨N2 ++ [v], rfl, fun n hn => ?_, by rw [List.length_append]; show N2.length + 1 ≤ 100; omega⟩
      rcases List.mem_append.mp hn with hn | hn
      · exact hN2 n hn
      · obtain rfl := List.mem_singleton.mp hn; exact hN2 _ hv
    · rw [if_neg (by simpa using c)]
      exact ⟨N2, rfl, hN2, by omega⟩
  obtain ⟨N3, e16, hN3, hl3⟩ := j2
  refine bd e16 ?_
  exact bd (hold_ok hN3 hl3 path2) rfl

end Mi
namespace G
open PySem PySem.Spec PyProof.Rows L2
/-! ### what never changes, and how a heap changes -/
/-- the attribute that an __init__ sets last: an instance with it is whole and stays as it is -/
def lastF : List Str := ["joined", "fuel", "reach", "inside", "hops", "letters", "hours"]
def done (fs : List (Str × V)) : Bool := fs.any fun p => lastF.any fun q => decide (q = p.1)
def Froz : HO → Prop
  | .tup _ => True
  | .ins _ _ fs => done fs = true
  | .own _ => True
  | .frz _ _ => True
  | _ => False
structure Chg (M : List Addr) (H H' : Hp) : Prop where
  keep : ∀ b o, H b = some o → (b ∉ M ∨ Froz o) → H' b = some o
  dom : ∀ b, H' b = none → H b = none
theorem Chg.refl {M : List Addr} (H : Hp) : Chg M H H := ⟨fun _ _ h _ => h, fun _ h => h⟩
theorem Chg.trans {M : List Addr} {H H1 H2 : Hp} (a : Chg M H H1) (b : Chg M H1 H2) : Chg M H H2 :=
  ⟨fun x o h d => b.keep x o (a.keep x o h d) d, fun x h => a.dom x (b.dom x h)⟩
theorem Chg.mono {M N : List Addr} {H H' : Hp} (a : Chg M H H') (s : ∀ x ∈ M, x ∈ N) : Chg N H H' :=
  ⟨fun b o h d => a.keep b o h (d.imp (fun z y => z (s b y)) id), a.dom⟩
theorem Chg.none {M : List Addr} {H H' : Hp} (a : Chg [] H H') : Chg M H H' := a.mono (fun x h => nomatch h)
theorem Chg.new {M : List Addr} {H : Hp} {p : Addr} {o : HO} (np : H p = .none) : Chg M H (upd H p o) :=
  ⟨fun b u h _ => by rw [upd_ne (ne_of_none h np)]; exact h, fun b h => by
    by_cases e : b = p
    · subst e; exact np
    · rw [upd_ne e] at h; exact h⟩
theorem Chg.wr {H : Hp} {p : Addr} {o u : HO} (hp : H p = some u) (nf : ¬ Froz u) : Chg [p] H (upd H p o) :=
  ⟨fun b w h d => by
    have e : b ≠ p := by
      intro e; subst e
      rw [hp] at h; cases h
      rcases d with d | d
      · exact d (List.mem_singleton.mpr rfl)
      · exact nf d
    rw [upd_ne e]; exact h, fun b h => by
    by_cases e : b = p
    · subst e; rw [upd_same] at h; cases h
    · rw [upd_ne e] at h; exact h⟩
/-- what was made behind H0 may change -/
theorem Chg.loc {M N : List Addr} {H0 H H' : Hp} (a : Chg M H0 H) (b : Chg N H H') (fr : ∀ x ∈ N, H0 x = .none) : Chg M H0 H' :=
  ⟨fun x o h d => b.keep x o (a.keep x o h d) (.inl (fun z => by rw [fr x z] at h; cases h)), fun x h => a.dom x (b.dom x h)⟩
/-- the part N of M, and what was made behind H0, may change -/
theorem Chg.join {M N : List Addr} {H0 H H' : Hp} (a : Chg M H0 H) (b : Chg N H H') (fr : ∀ x ∈ N, x ∈ M ∨ H0 x = .none) : Chg M H0 H' :=
  ⟨fun x o h d => b.keep x o (a.keep x o h d) (by
    rcases d with d | d
    · refine .inl (fun z => ?_)
      rcases fr x z with y | y
      · exact d y
      · rw [y] at h; cases h
    · exact .inr d), fun x h => a.dom x (b.dom x h)⟩
theorem Chg.free {M : List Addr} {H H' : Hp} (a : Chg M H H') {p : Addr} (np : H' p = .none) : H p = .none := a.dom p np
/-! ### kinds of data -/
structure Ty (α : Type) where
  rep : PySem.W.Frag → Hp → List Addr → V → α → Prop
  keep : ∀ {K : PySem.W.Frag} {H H' : Hp} {F : List Addr} {v : V} {d : α}, rep K H F v d → (∀ b o, H b = some o → (b ∈ F ∨ Froz o) → H' b = some o) → rep K H' F v d
  dom : ∀ {K : PySem.W.Frag} {H : Hp} {F : List Addr} {v : V} {d : α}, rep K H F v d → ∀ b ∈ F, ∃ o, H b = some o ∧ ¬ Froz o
/-- a and b have nothing in common -/
def Dj (F G : List Addr) : Prop := ∀ a ∈ F, a ∉ G
theorem Dj.symm {F G : List Addr} (d : Dj F G) : Dj G F := fun a h z => d a z h
theorem Dj.nil {F : List Addr} : Dj [] F := fun a h => nomatch h
theorem Dj.nilR {F : List Addr} : Dj F [] := fun a h z => nomatch z
section
variable {α β : Type} {τ : Ty α} {υ : Ty β} {K : PySem.W.Frag} {H H' : Hp} {F G M : List Addr} {v u : V} {d : α} {p : Addr}
theorem Ty.chg (r : τ.rep K H F v d) (c : Chg M H H') (dj : Dj F M) : τ.rep K H' F v d :=
  τ.keep r fun b o h z => c.keep b o h (z.imp (fun y => dj b y) id)
theorem Ty.ex (r : τ.rep K H F v d) (c : Chg [] H H') : τ.rep K H' F v d := Ty.chg r c Dj.nilR
theorem Ty.fz (r : τ.rep K H [] v d) (c : Chg M H H') : τ.rep K H' [] v d := Ty.chg r c Dj.nil
theorem Ty.nin (r : τ.rep K H F v d) (np : H p = none) : Dj F [p] := fun a h z => by
  rw [List.mem_singleton] at z; subst z
  obtain ⟨o, e, _⟩ := τ.dom r a h
  rw [np] at e; cases e
theorem Ty.fresh (r : τ.rep K H F v d) (np : ∀ a ∈ G, H a = none) : Dj F G := fun a h z => by
  obtain ⟨o, e, _⟩ := τ.dom r a h
  rw [np a z] at e; cases e
end
theorem one_fresh {H : Hp} {p : Addr} (np : H p = none) : ∀ a ∈ [p], H a = none := fun a h => by
  rw [List.mem_singleton] at h; subst h; exact np
/-! ### flat data -/
def yInt : Ty Int := ⟨fun _ _ F v d => F = [] ∧ v = .int d, fun h _ => h, fun h b m => by rw [h.1] at m; cases m⟩
def yBool : Ty Bool := ⟨fun _ _ F v d => F = [] ∧ v = .bl d, fun h _ => h, fun h b m => by rw [h.1] at m; cases m⟩
def yStr : Ty Str := ⟨fun _ _ F v d => F = [] ∧ v = .str d, fun h _ => h, fun h b m => by rw [h.1] at m; cases m⟩
def yNon : Ty Unit := ⟨fun _ _ F v _ => F = [] ∧ v = .non, fun h _ => h, fun h b m => by rw [h.1] at m; cases m⟩
theorem yInt_i {K : PySem.W.Frag} {H : Hp} {i : Int} : yInt.rep K H [] (.int i) i := ⟨rfl, rfl⟩
theorem yBool_i {K : PySem.W.Frag} {H : Hp} {i : Bool} : yBool.rep K H [] (.bl i) i := ⟨rfl, rfl⟩
theorem yStr_i {K : PySem.W.Frag} {H : Hp} {i : Str} : yStr.rep K H [] (.str i) i := ⟨rfl, rfl⟩
theorem yNon_i {K : PySem.W.Frag} {H : Hp} : yNon.rep K H [] .non () := ⟨rfl, rfl⟩
/-- None or data -/
def yOpt {α : Type} (τ : Ty α) : Ty (Option α) where
  rep K H F v d := match d with
    | none => F = [] ∧ v = .non
    | some x => v ≠ .non ∧ τ.rep K H F v x
  keep {K H H' F v d} h k := by
    cases d with
    | none => exact h
    | some x => exact ⟨h.1, τ.keep h.2 k⟩
  dom {K H F v d} h b m := by
    cases d with
    | none => rw [h.1] at m; cases m
    | some x => exact τ.dom h.2 b m
/-- a list whose items never change -/
def yLst {α : Type} (τ : Ty α) : Ty (List α) where
  rep K H F v xs := ∃ a vs, v = .ref a ∧ F = [a] ∧ H a = some (.lst vs) ∧ Paired (fun u x => τ.rep K H [] u x) vs xs
  keep {K H H' F v xs} h k := by
    obtain ⟨a, vs, e, f, g, r⟩ := h
    subst f
    exact ⟨a, vs, e, rfl, k a _ g (.inl (List.mem_singleton.mpr rfl)), Paired.mapP r fun u x q => τ.keep q fun b o hb z => k b o hb (z.elim (fun y => nomatch y) .inr)⟩
  dom {K H F v xs} h b m := by
    obtain ⟨a, vs, e, f, g, r⟩ := h
    subst f
    rw [List.mem_singleton] at m; subst m
    exact ⟨_, g, fun z => z⟩
theorem SqT.keeps {K : PySem.W.Frag} {H H' : Hp} {a : Addr} {vs : List V} (s : SqT K H a vs) (k : ∀ b o, H b = some o → Froz o → H' b = some o) : SqT K H' a vs := by
  rcases s with (s | ⟨o, s⟩) | s
  · exact .inl (.inl (k _ _ s trivial))
  · exact .inl (.inr ⟨o, k _ _ s trivial⟩)
  · exact .inr s
/-- the items of a tuple -/
structure Tys (α : Type) where
  rep : PySem.W.Frag → Hp → List Addr → List V → α → Prop
  keep : ∀ {K : PySem.W.Frag} {H H' : Hp} {F : List Addr} {v : List V} {d : α}, rep K H F v d → (∀ b o, H b = some o → (b ∈ F ∨ Froz o) → H' b = some o) → rep K H' F v d
  dom : ∀ {K : PySem.W.Frag} {H : Hp} {F : List Addr} {v : List V} {d : α}, rep K H F v d → ∀ b ∈ F, ∃ o, H b = some o ∧ ¬ Froz o
def sOne {α : Type} (τ : Ty α) : Tys α where
  rep K H F vs x := ∃ v, vs = [v] ∧ τ.rep K H F v x
  keep h k := by obtain ⟨v, e, r⟩ := h; exact ⟨v, e, τ.keep r k⟩
  dom h b m := by obtain ⟨v, e, r⟩ := h; exact τ.dom r b m
def sCons {α β : Type} (τ : Ty α) (ts : Tys β) : Tys (α × β) where
  rep K H F vs x := ∃ v ws F1 F2, vs = v :: ws ∧ F = F1 ++ F2 ∧ τ.rep K H F1 v x.1 ∧ ts.rep K H F2 ws x.2
  keep {K H H' F v d} h k := by
    obtain ⟨v, ws, F1, F2, e, f, r, q⟩ := h
    subst f
    exact ⟨v, ws, F1, F2, e, rfl, τ.keep r fun b o hb z => k b o hb (z.imp (fun y => List.mem_append_left _ y) id), ts.keep q fun b o hb z => k b o hb (z.imp (fun y => List.mem_append_right _ y) id)⟩
  dom {K H F v d} h b m := by
    obtain ⟨v, ws, F1, F2, e, f, r, q⟩ := h
    subst f
    rcases List.mem_append.mp m with m | m
    · exact τ.dom r b m
    · exact ts.dom q b m
def yTup {α : Type} (ts : Tys α) : Ty α where
  rep K H F v d := ∃ a vs, v = .ref a ∧ SqT K H a vs ∧ ts.rep K H F vs d
  keep h k := by
    obtain ⟨a, vs, e, s, r⟩ := h
    exact ⟨a, vs, e, SqT.keeps s fun b o hb z => k b o hb (.inr z), ts.keep r k⟩
  dom h b m := by obtain ⟨a, vs, e, s, r⟩ := h; exact ts.dom r b m
/-- a tuple of any number of things of one kind that never change -/
def yTupL {α : Type} (τ : Ty α) : Ty (List α) where
  rep K H F v xs := ∃ a vs, v = .ref a ∧ F = [] ∧ SqT K H a vs ∧ Paired (fun u x => τ.rep K H [] u x) vs xs
  keep {K H H' F v xs} h k := by
    obtain ⟨a, vs, e, f, g, r⟩ := h
    exact ⟨a, vs, e, f, SqT.keeps g fun b o hb z => k b o hb (.inr z), Paired.mapP r fun u x q => τ.keep q fun b o hb z => k b o hb (z.elim (fun y => nomatch y) .inr)⟩
  dom {K H F v xs} h b m := by
    obtain ⟨a, vs, e, f, g, r⟩ := h
    rw [f] at m; cases m
/-- the script -/
def yScr : Ty (List Int) where
  rep K H F v xs := F = [] ∧ ∃ a, v = .ref a ∧ ∀ H', (∀ b o, H b = some o → Froz o → H' b = some o) → SqL K H' a (xs.map V.int)
  keep {K H H' F v xs} h k := by
    obtain ⟨f, a, e, g⟩ := h
    exact ⟨f, a, e, fun H2 k2 => g H2 fun b o hb z => k2 b o (k b o hb (.inr z)) z⟩
  dom {K H F v xs} h b m := by
    rw [h.1] at m; cases m
theorem yScr_of {K : PySem.W.Frag} {H : Hp} {a : Addr} {ns : List Int} (o : Only H) (s : SqL K H a (ns.map V.int)) : yScr.rep K H [] (.ref a) ns := by
  refine ⟨rfl, a, rfl, fun H' k => ?_⟩
  rcases s with (s | ⟨ob, s⟩) | s
  · rcases o a with z | ⟨_, _, z⟩
    · rw [z] at s; cases s
    · rw [z] at s; cases s
  · exact .inl (.inr ⟨ob, k _ _ s trivial⟩)
  · exact .inr s
end G

namespace G
open PySem PySem.Spec PyProof.Rows L2
theorem at_eq {α : Type} (xs : List α) (i : Int) : L2.atI xs i = Mi.at_ xs i := rfl
theorem ixN_eq (n : Nat) (i : Int) : L2.ixN n i = Mi.ixN n i := rfl
theorem line_big : Mi.big ≤ sizeLine := by rw [sizeLine_eq]; decide
section paired
variable {α β γ : Type} {R : α → β → Prop}
theorem pr_len {xs : List α} {ys : List β} (r : Paired R xs ys) : xs.length = ys.length := Paired.length r
theorem pr_get : ∀ {xs : List α} {ys : List β} {j : Nat} {y : β}, Paired R xs ys → ys[j]? = some y → ∃ x, xs[j]? = some x ∧ R x y
  | _, _, _, _, .nil, e => by simp at e
  | _, _, 0, _, .cons r _, e => by simp at e; subst e; exact ⟨_, rfl, r⟩
  | _, _, j + 1, y, .cons _ t, e => by
    obtain ⟨u, h1, h2⟩ := pr_get (j := j) (y := y) t (by simpa using e)
    exact ⟨u, by simpa using h1, h2⟩
theorem pr_getL : ∀ {xs : List α} {ys : List β} {j : Nat} {x : α}, Paired R xs ys → xs[j]? = some x → ∃ y, ys[j]? = some y ∧ R x y
  | _, _, _, _, .nil, e => by simp at e
  | _, _, 0, _, .cons r _, e => by simp at e; subst e; exact ⟨_, rfl, r⟩
  | _, _, j + 1, y, .cons _ t, e => by
    obtain ⟨u, h1, h2⟩ := pr_getL (j := j) (x := y) t (by simpa using e)
    exact ⟨u, by simpa using h1, h2⟩
theorem pr_set {x : α} {y : β} (r : R x y) : ∀ {xs : List α} {ys : List β} (i : Nat), Paired R xs ys → Paired R (xs.set i x) (ys.set i y)
  | _, _, _, .nil => .nil
  | _, _, 0, .cons _ t => .cons r t
  | _, _, i + 1, .cons q t => .cons q (pr_set r i t)
theorem pr_app : ∀ {xs zs : List α} {ys ws : List β}, Paired R xs ys → Paired R zs ws → Paired R (xs ++ zs) (ys ++ ws)
  | _, _, _, _, .nil, s => s
  | _, _, _, _, .cons r t, s => .cons r (pr_app t s)
theorem pr_take : ∀ {xs : List α} {ys : List β} (n : Nat), Paired R xs ys → Paired R (xs.take n) (ys.take n)
  | _, _, 0, _ => .nil
  | _, _, _ + 1, .nil => .nil
  | _, _, n + 1, .cons r t => .cons r (pr_take n t)
theorem pr_drop : ∀ {xs : List α} {ys : List β} (n : Nat), Paired R xs ys → Paired R (xs.drop n) (ys.drop n)
  | _, _, 0, r => r
  | _, _, _ + 1, .nil => .nil
  | _, _, n + 1, .cons _ t => pr_drop n t
theorem pr_at {xs : List α} {ys : List β} {i : Int} {y : β} (r : Paired R xs ys) (h : Mi.at_ ys i = some y) : ∃ x, L2.atI xs i = some x ∧ R x y := by
  rw [at_eq]
  unfold Mi.at_ at h ⊢
  rw [pr_len r]
  obtain ⟨j, e, h⟩ := Mi.bnd h
  obtain ⟨x, e2, q⟩ := pr_get r h
  exact ⟨x, by rw [e]; exact e2, q⟩
theorem pr_map (f : β → α) (h : ∀ b, R (f b) b) : ∀ ys : List β, Paired R (ys.map f) ys
  | [] => .nil
  | y :: ys => .cons (h y) (pr_map f h ys)
theorem pr_of_map (f : β → α) (h : ∀ a b, R a b → a = f b) : ∀ {xs : List α} {ys : List β}, Paired R xs ys → xs = ys.map f
  | _, _, .nil => rfl
  | _, _, .cons r t => by rw [h _ _ r, pr_of_map f h t]; rfl
end paired
theorem ints_of {K : PySem.W.Frag} {H : Hp} {vs : List V} {ns : List Int} (r : Paired (fun u x => yInt.rep K H [] u x) vs ns) : vs = ns.map V.int := pr_of_map V.int (fun _ _ q => q.2) r
theorem ints_mk {K : PySem.W.Frag} {H : Hp} (ns : List Int) : Paired (fun u x => yInt.rep K H [] u x) (ns.map V.int) ns := pr_map V.int (fun _ => ⟨rfl, rfl⟩) ns
/-! ### values without a change of the heap -/
section vals
variable {K : PySem.W.Frag} {σ : L2.St} {H : Hp} {F : List Addr} {ta tb te : TE} {v u x y : V} {i j : Int} {t : TT} {b c : Bool} {α β : Type} {τ : Ty α}
theorem val_I0 {g : Int → Int → V} (ha : Val ta σ H (.int i)) (hb : Val tb σ H (.int j)) : Val (tOp (rI0 g) ta tb) σ H (g i j) := val_op ha hb fun Q q => ⟨i, j, rfl, rfl, q⟩
theorem val_I {C : Int → Int → Prop} {g : Int → Int → V} (ha : Val ta σ H (.int i)) (hb : Val tb σ H (.int j)) (hc : C i j) : Val (tOp (rI C g) ta tb) σ H (g i j) := val_op ha hb fun Q q => ⟨i, j, rfl, rfl, hc, q⟩
theorem val_U {g : Int → V} (ha : Val ta σ H (.int i)) : Val (tUn (rU g) ta) σ H (g i) := fun Q q => ha _ ⟨i, rfl, q⟩
theorem dI {i j : Int} : decide (V.int i = V.int j) = decide (i = j) := by
  by_cases e : i = j
  · subst e; simp
  · rw [decide_eq_false e, decide_eq_false (fun q => e (V.int.inj q))]
theorem dB {i j : Bool} : decide (V.bl i = V.bl j) = decide (i = j) := by
  by_cases e : i = j
  · subst e; simp
  · rw [decide_eq_false e, decide_eq_false (fun q => e (V.bl.inj q))]
theorem dS {i j : Str} : decide (V.str i = V.str j) = decide (i = j) := by
  by_cases e : i = j
  · subst e; simp
  · rw [decide_eq_false e, decide_eq_false (fun q => e (V.str.inj q))]
theorem val_eqI (ha : Val ta σ H (.int i)) (hb : Val tb σ H (.int j)) : Val (tOp rEq ta tb) σ H (.bl (decide (i = j))) := val_op ha hb fun Q q => ⟨rfl, by rw [dI]; exact q⟩
theorem val_neI (ha : Val ta σ H (.int i)) (hb : Val tb σ H (.int j)) : Val (tOp rNe ta tb) σ H (.bl (!decide (i = j))) := val_op ha hb fun Q q => ⟨rfl, by rw [dI]; exact q⟩
theorem val_eqB (ha : Val ta σ H (.bl b)) (hb : Val tb σ H (.bl c)) : Val (tOp rEq ta tb) σ H (.bl (decide (b = c))) := val_op ha hb fun Q q => ⟨rfl, by rw [dB]; exact q⟩
theorem val_neB (ha : Val ta σ H (.bl b)) (hb : Val tb σ H (.bl c)) : Val (tOp rNe ta tb) σ H (.bl (!decide (b = c))) := val_op ha hb fun Q q => ⟨rfl, by rw [dB]; exact q⟩
theorem val_is {w : V} (h : Val te σ H v) (e : v = w) : Val te σ H w := e ▸ h
theorem ans_is (h : Ans t σ H b) (e : b = c) : Ans t σ H c := e ▸ h
theorem mulC {i j r : Int} (h : Mi.mul i j = some r) : CMul i j ∧ i * j = r := by
  unfold Mi.mul at h
  split at h
  · exact ⟨by assumption, Option.some.inj h⟩
  · cases h
theorem modC {i j r : Int} (h : Mi.mod i j = some r) : 0 < j ∧ i % j = r := by
  unfold Mi.mod at h
  split at h
  · exact ⟨by assumption, Option.some.inj h⟩
  · cases h
theorem divC {i j r : Int} (h : Mi.fdiv i j = some r) : CDivW i j ∧ i / j = r := by
  unfold Mi.fdiv at h
  split at h
  · rename_i hc
    refine ⟨wide_div (b := 200) hc.1 ?_ (by decide) (by decide), Option.some.inj h⟩
    omega
  · cases h
theorem val_mul {r : Int} (ha : Val ta σ H (.int i)) (hb : Val tb σ H (.int j)) (h : Mi.mul i j = some r) : Val (tOp (rI CMul fun i j => .int (i * j)) ta tb) σ H (.int r) := val_is (val_I ha hb (mulC h).1) (by rw [(mulC h).2])
theorem val_mod {r : Int} (ha : Val ta σ H (.int i)) (hb : Val tb σ H (.int j)) (h : Mi.mod i j = some r) : Val (tOp (rI (fun _ j => 0 < j) fun i j => .int (i % j)) ta tb) σ H (.int r) := val_is (val_I ha hb (modC h).1) (by rw [(modC h).2])
theorem val_fdiv {r : Int} (ha : Val ta σ H (.int i)) (hb : Val tb σ H (.int j)) (h : Mi.fdiv i j = some r) : Val (tOp (rI CDivW fun i j => .int (i / j)) ta tb) σ H (.int r) := val_is (val_I ha hb (divC h).1) (by rw [(divC h).2])
theorem ans_t (h : Val te σ H (.bl b)) : Ans (tTest te) σ H b := fun Q q => h _ ⟨b, rfl, q⟩
/-- int(n) -/
def rInt1 : List V → Hp → VK → Prop := fun xs H Q => (∃ i, xs = [.int i] ∧ Q (.int i) H) ∨ ∃ k, xs = [.bl k] ∧ Q (.int (if k then 1 else 0)) H
theorem cl_int {X : Cx} : CallR X (.type "int") rInt1 := call_int1
theorem val_int (ha : Val ta σ H (.int i)) : Val (tCB rInt1 (tCons ta tNil)) σ H (.int i) := fun Q q => ha _ (.inl ⟨i, rfl, q⟩)
def rMax2 : List V → Hp → VK → Prop := fun xs H Q => ∃ i j, xs = [.int i, .int j] ∧ Q (.int (if j > i then j else i)) H
def rMin2 : List V → Hp → VK → Prop := fun xs H Q => ∃ i j, xs = [.int i, .int j] ∧ Q (.int (if j < i then j else i)) H
theorem cl_max2 {X : Cx} (hc : X.calm = true) : CallR X (.builtin "max") rMax2 := call_max2 hc
theorem cl_min2 {X : Cx} (hc : X.calm = true) : CallR X (.builtin "min") rMin2 := call_min2 hc
theorem val_max2 (ha : Val ta σ H (.int i)) (hb : Val tb σ H (.int j)) : Val (tCB rMax2 (tCons ta (tCons tb tNil))) σ H (.int (max i j)) := fun Q q => ha _ (hb _ ⟨i, j, rfl, by
  have e : (if j > i then j else i) = max i j := by split <;> omega
  rw [e]; exact q⟩)
theorem val_min2 (ha : Val ta σ H (.int i)) (hb : Val tb σ H (.int j)) : Val (tCB rMin2 (tCons ta (tCons tb tNil))) σ H (.int (min i j)) := fun Q q => ha _ (hb _ ⟨i, j, rfl, by
  have e : (if j < i then j else i) = min i j := by split <;> omega
  rw [e]; exact q⟩)
/-- len of a list or tuple -/
def rLenQ (K : PySem.W.Frag) : List V → Hp → VK → Prop := fun xs H Q => ∃ p ys, xs = [.ref p] ∧ (SqL K H p ys ∨ SqT K H p ys) ∧ Q (.int ys.length) H
theorem cl_len {X : Cx} {K : PySem.W.Frag} (e : X.K = K := by rfl) : CallR X (.builtin "len") (rLenQ K) := by subst e; exact call_len_seq
theorem lst_sq {xs : List α} (r : (yLst τ).rep K H F v xs) : ∃ a vs, v = .ref a ∧ SqL K H a vs ∧ Paired (fun u x => τ.rep K H [] u x) vs xs := by
  obtain ⟨a, vs, e, f, g, q⟩ := r
  exact ⟨a, vs, e, .inl (.inl g), q⟩
theorem tupl_sq {xs : List α} (r : (yTupL τ).rep K H F v xs) : ∃ a vs, v = .ref a ∧ SqT K H a vs ∧ Paired (fun u x => τ.rep K H [] u x) vs xs := by
  obtain ⟨a, vs, e, f, g, q⟩ := r
  exact ⟨a, vs, e, g, q⟩
theorem scr_sq {xs : List Int} (r : yScr.rep K H F v xs) : ∃ a vs, v = .ref a ∧ SqL K H a vs ∧ Paired (fun u x => yInt.rep K H [] u x) vs xs := by
  obtain ⟨f, a, e, g⟩ := r
  exact ⟨a, _, e, g H fun _ _ h _ => h, ints_mk xs⟩
theorem val_lenL {xs : List α} (r : (yLst τ).rep K H F v xs) (ha : Val ta σ H v) : Val (tCB (rLenQ K) (tCons ta tNil)) σ H (.int (xs.length : Int)) := by
  obtain ⟨a, vs, e, s, q⟩ := lst_sq r
  subst e
  exact fun Q k => ha _ ⟨a, vs, rfl, .inl s, by rw [pr_len q]; exact k⟩
theorem val_lenT {xs : List α} (r : (yTupL τ).rep K H F v xs) (ha : Val ta σ H v) : Val (tCB (rLenQ K) (tCons ta tNil)) σ H (.int (xs.length : Int)) := by
  obtain ⟨a, vs, e, s, q⟩ := tupl_sq r
  subst e
  exact fun Q k => ha _ ⟨a, vs, rfl, .inr s, by rw [pr_len q]; exact k⟩
theorem val_lenS {xs : List Int} (r : yScr.rep K H F v xs) (ha : Val ta σ H v) : Val (tCB (rLenQ K) (tCons ta tNil)) σ H (.int (xs.length : Int)) := by
  obtain ⟨a, vs, e, s, q⟩ := scr_sq r
  subst e
  exact fun Q k => ha _ ⟨a, vs, rfl, .inl s, by rw [pr_len q]; exact k⟩
/-- items -/
theorem ix_l {X : Cx} {K : PySem.W.Frag} (e : X.K = K := by rfl) : IxR X (rIxL K) := by subst e; exact ix_list
theorem ix_t {X : Cx} {K : PySem.W.Frag} (e : X.K = K := by rfl) : IxR X (rIxT K) := by subst e; exact ix_tup
/-- the item's own value, by its data -/
theorem itm_L {xs : List α} {x : α} (r : (yLst τ).rep K H F v xs) (h : Mi.at_ xs i = some x) :
    ∃ u, τ.rep K H [] u x ∧ ∀ {σ : L2.St} {ta tb : TE}, Val ta σ H v → Val tb σ H (.int i) → Val (tOp (rIxL K) ta tb) σ H u := by
  obtain ⟨a, vs, e, s, q⟩ := lst_sq r
  subst e
  obtain ⟨u, e, ru⟩ := pr_at q h
  exact ⟨u, ru, fun ha hb => val_op ha hb fun Q k => ⟨a, vs, i, u, rfl, rfl, s, e, k⟩⟩
theorem itm_T {xs : List α} {x : α} (r : (yTupL τ).rep K H F v xs) (h : Mi.at_ xs i = some x) :
    ∃ u, τ.rep K H [] u x ∧ ∀ {σ : L2.St} {ta tb : TE}, Val ta σ H v → Val tb σ H (.int i) → Val (tOp (rIxT K) ta tb) σ H u := by
  obtain ⟨a, vs, e, s, q⟩ := tupl_sq r
  subst e
  obtain ⟨u, e, ru⟩ := pr_at q h
  exact ⟨u, ru, fun ha hb => val_op ha hb fun Q k => ⟨a, vs, i, u, rfl, rfl, s, e, k⟩⟩
theorem itm_S {xs : List Int} {x : Int} (r : yScr.rep K H F v xs) (h : Mi.at_ xs i = some x) {σ : L2.St} {ta tb : TE} (ha : Val ta σ H v) (hb : Val tb σ H (.int i)) : Val (tOp (rIxL K) ta tb) σ H (.int x) := by
  obtain ⟨a, vs, e, s, q⟩ := scr_sq r
  subst e
  obtain ⟨u, e, ru⟩ := pr_at q h
  obtain ⟨_, rfl⟩ := ru
  exact val_op ha hb fun Q k => ⟨a, vs, i, _, rfl, rfl, s, e, k⟩
/-- ints in lists -/
theorem itm_LI {xs : List Int} {x : Int} (r : (yLst yInt).rep K H F v xs) (h : Mi.at_ xs i = some x) {σ : L2.St} {ta tb : TE} (ha : Val ta σ H v) (hb : Val tb σ H (.int i)) : Val (tOp (rIxL K) ta tb) σ H (.int x) := by
  obtain ⟨u, ⟨_, rfl⟩, k⟩ := itm_L r h
  exact k ha hb
theorem itm_TI {xs : List Int} {x : Int} (r : (yTupL yInt).rep K H F v xs) (h : Mi.at_ xs i = some x) {σ : L2.St} {ta tb : TE} (ha : Val ta σ H v) (hb : Val tb σ H (.int i)) : Val (tOp (rIxT K) ta tb) σ H (.int x) := by
  obtain ⟨u, ⟨_, rfl⟩, k⟩ := itm_T r h
  exact k ha hb
/-! ### isinstance -/
theorem cl_isi {X : Cx} {K : PySem.W.Frag} (e : X.K = K := by rfl) : CallR X (.builtin "isinstance") (rIsi K) := by subst e; exact call_isi
theorem val_isi {n m : String} {b : Bool} (ha : Val ta σ H v) (ht : TyX K H v (.type n)) (h : kitB n m = some b) : Val (tCB (rIsi K) (tCons ta (tCons (tC (.ty m)) tNil))) σ H (.bl b) := fun Q q =>
  ha _ ⟨v, .ty m, .type n, .type m, b, rfl, .ty m, ht, kit_ty h, q⟩
theorem ty_int : TyX K H (.int i) (.type "int") := .base (.int i)
theorem ty_bl : TyX K H (.bl b) (.type "bool") := .base (.bl b)
theorem ty_str {s : Str} : TyX K H (.str s) (.type "str") := .base (.str s)
theorem ty_non : TyX K H .non (.type "NoneType") := .base .non
theorem ty_lst {xs : List α} (r : (yLst τ).rep K H F v xs) : TyX K H v (.type "list") := by
  obtain ⟨a, vs, rfl, f, g, q⟩ := r
  exact .base (.lst g)
theorem ty_sqt {a : Addr} {vs : List V} (s : SqT K H a vs) : TyX K H (.ref a) (.type "tuple") := by
  rcases s with (s | ⟨o, s⟩) | ⟨o, its, n, e, c, _⟩
  · exact .base (.tup s)
  · exact .fTuple s
  · exact .kTuple e c
theorem ty_tupl {xs : List α} (r : (yTupL τ).rep K H F v xs) : TyX K H v (.type "tuple") := by
  obtain ⟨a, vs, rfl, s, q⟩ := tupl_sq r
  exact ty_sqt s
theorem ty_tup {ts : Tys α} {d : α} (r : (yTup ts).rep K H F v d) : TyX K H v (.type "tuple") := by
  obtain ⟨a, vs, rfl, s, q⟩ := r
  exact ty_sqt s
end vals
/-! ### going on behind an expression -/
section cps
variable {K : PySem.W.Frag} {σ σ' : L2.St} {H : Hp} {F : List Addr} {ta tb te : TE} {v u x y : V} {i j : Int} {t : TT} {b c : Bool} {α β : Type} {τ : Ty α} {Q : VK} {D : Ends} {t1 t2 : TS}
theorem c_val (h : Val te σ H v) (k : Q v H) : te σ H Q := h Q k
theorem c_ans {Q : Bool → Hp → Prop} (h : Ans t σ H b) (k : Q b H) : t σ H Q := h Q k
theorem c_if {A B : Prop} (h1 : b = true → A) (h2 : b = false → B) : if b = true then A else B := by
  cases b with
  | true => exact iteT (h1 rfl)
  | false => exact iteF (h2 rfl)
theorem s_if (h : Ans t σ H b) (h1 : b = true → t1 D σ H) (h2 : b = false → t2 D σ H) : tIfS t t1 t2 D σ H := h _ (c_if h1 h2)
/-- x = e -/
theorem s_set {i : Nat} (h : Val te σ H v) (e : σ.set i (some v) = σ') (k : D.nx σ' H) : tAsg te (gName i) D σ H := h _ (by show D.nx (σ.set i (some v)) H; rw [e]; exact k)
theorem s_setI {i : Nat} {n m : Int} (h : Val te σ H (.int n)) (en : n = m) (e : σ.set i (some (.int m)) = σ') (k : D.nx σ' H) : tAsg te (gName i) D σ H := s_set (v := .int m) (en ▸ h) e k
theorem s_seq (h : t1 { D with nx := t2 D } σ H) : tSeq t1 t2 D σ H := h
/-- a join: R is what holds where the ways come together -/
theorem s_join {R : L2.St → Hp → Prop} (w : ∀ nx : L2.St → Hp → Prop, (∀ σ' H', R σ' H' → nx σ' H') → t1 { D with nx := nx } σ H) (k : ∀ σ' H', R σ' H' → t2 D σ' H') : tSeq t1 t2 D σ H := w _ k
theorem g_name {i : Nat} {Q : L2.St → Hp → Prop} (e : σ.set i (some v) = σ') (k : Q σ' H) : gName i v σ H Q := by show Q (σ.set i (some v)) H; rw [e]; exact k
theorem g_nameI {i : Nat} {n m : Int} {Q : L2.St → Hp → Prop} (en : n = m) (e : σ.set i (some (.int m)) = σ') (k : Q σ' H) : gName i (.int n) σ H Q := g_name (v := .int n) (by rw [en]; exact e) k
/-- a list, a tuple is made -/
theorem sz {n : Nat} (h : n ≤ Mi.big) : n ≤ sizeLine := Nat.le_trans h line_big
theorem c_lst {ts : TA} (h : ts σ H fun xs H1 => xs.length ≤ Mi.big ∧ ∀ p, H1 p = none → Q (.ref p) (upd H1 p (.lst xs))) (mono : ∀ Q Q' : List V → Hp → Prop, (∀ xs H1, Q xs H1 → Q' xs H1) → ts σ H Q → ts σ H Q') : L2.tLst ts σ H Q := mono _ _ (fun xs H1 z => ⟨sz z.1, z.2⟩) h
/-- values of arguments -/
def VaA (t : TA) (σ : L2.St) (H : Hp) (vs : List V) : Prop := ∀ Q : List V → Hp → Prop, Q vs H → t σ H Q
theorem va_nil : VaA tNil σ H [] := fun Q q => q
theorem va_cons {tr : TA} {vs : List V} (h : Val ta σ H v) (r : VaA tr σ H vs) : VaA (tCons ta tr) σ H (v :: vs) := fun Q q => h _ (r _ q)
theorem n_lst {ts : TA} {vs : List V} {xs : List α} (h : VaA ts σ H vs) (z : vs.length ≤ Mi.big) (r : Paired (fun u x => τ.rep K H [] u x) vs xs)
    (k : ∀ p H', H p = none → Chg [] H H' → (yLst τ).rep K H' [p] (.ref p) xs → Q (.ref p) H') : L2.tLst ts σ H Q := h _ ⟨sz z, fun p np => k p _ np (Chg.new np)
      ⟨p, vs, rfl, rfl, upd_same, Paired.mapP r fun u x q => Ty.ex q (Chg.new np)⟩⟩
theorem n_tup {ts : TA} {ty : Tys α} {vs : List V} {d : α} {F : List Addr} (h : VaA ts σ H vs) (z : vs.length ≤ Mi.big) (r : ty.rep K H F vs d)
    (k : ∀ p H', H p = none → Chg [] H H' → (yTup ty).rep K H' F (.ref p) d → Q (.ref p) H') : L2.tTup ts σ H Q := h _ ⟨sz z, fun p np => k p _ np (Chg.new np)
      ⟨p, vs, rfl, .inl (.inl upd_same), ty.keep r fun b o e _ => by rw [upd_ne (ne_of_none e np)]; exact e⟩⟩
/-- xs.append(e) -/
theorem m_app {xs ys : List α} {d : α} (r : (yLst τ).rep K H F v xs) (ru : τ.rep K H [] u d) (hm : Mi.app xs d = some ys) (k : ∀ H', Chg F H H' → (yLst τ).rep K H' F v ys → Q .non H') : rAppend v [u] H Q := by
  obtain ⟨p, vs, rfl, rfl, g, q⟩ := r
  unfold Mi.app at hm
  split at hm
  · rename_i hz
    cases hm
    have c : Chg [p] H (upd H p (.lst (vs ++ [u]))) := Chg.wr g (fun z => z)
    refine ⟨p, vs, u, rfl, rfl, g, Nat.lt_of_lt_of_le (by rw [pr_len q]; exact hz) line_big, k _ c ⟨p, _, rfl, rfl, upd_same, ?_⟩⟩
    exact pr_app (Paired.mapP q fun _ _ z => Ty.fz z c) (.cons (Ty.fz ru c) .nil)
  · cases hm
/-- xs[i] = e -/
theorem m_set {xs ys : List α} {d : α} {Q : Hp → Prop} (r : (yLst τ).rep K H F v xs) (ru : τ.rep K H [] u d) (hm : Mi.setAt xs i d = some ys) (k : ∀ H', Chg F H H' → (yLst τ).rep K H' F v ys → Q H') : rSetL v (.int i) u H Q := by
  obtain ⟨p, vs, rfl, rfl, g, q⟩ := r
  unfold Mi.setAt at hm
  obtain ⟨j, e, hm⟩ := Mi.bnd hm
  cases hm
  have c : Chg [p] H (upd H p (.lst (vs.set j u))) := Chg.wr g (fun z => z)
  refine ⟨p, vs, i, j, rfl, rfl, g, by rw [pr_len q]; exact e, k _ c ⟨p, _, rfl, rfl, upd_same, ?_⟩⟩
  exact pr_set (Ty.fz ru c) j (Paired.mapP q fun _ _ z => Ty.fz z c)
end cps
end G

namespace G
open PySem PySem.Spec PyProof.Rows L2
/-- the built-in names that the program leaves as they are -/
structure Bi (mg : Str → Option Value) : Prop where
  len : mg "len" = none
  range : mg "range" = none
  int : mg "int" = none
  bool : mg "bool" = none
  isinstance : mg "isinstance" = none
  max : mg "max" = none
  min : mg "min" = none
  list : mg "list" = none
  tuple : mg "tuple" = none
  sorted : mg "sorted" = none
  set : mg "set" = none
  enumerate : mg "enumerate" = none
  zip : mg "zip" = none
  reversed : mg "reversed" = none
  sum : mg "sum" = none
  any : mg "any" = none
  all : mg "all" = none
  str : mg "str" = none
/-- a def of the text stands under its name -/
structure Dfn (K : PySem.W.Frag) (mg : Str → Option Value) (x : Str) (st : Stmt) : Prop where
  ex : ∃ f fd, Fun K x x st f fd ∧ mg x = some (.ref f)
/-- a def may be called by its name and keeps its promise -/
structure Cal (P : Program) (w : World) (K : PySem.W.Frag) (mg : Str → Option Value) (x : Str) (ps : List Str) (k : Nat) (sp : Sp) : Prop where
  ex : ∃ f fd, mg x = some (.ref f) ∧ PySem.W.keepIn K (.ref f) = true ∧ (∀ (s : Shared) (us : List Value), us.length = ps.length → BindsTo s fd ⟨us, []⟩ (ps.zip us)) ∧ ∀ base : Heap, FnOk P w K mg base CX0 k f fd ps sp
theorem pe_cc {X : Cx} {x : Str} {ps : List Str} {j k : Nat} {sp : Sp} {p pos : Pos} {e : Expr} {es : List Expr} {t : TA} (C : Cal X.prog X.w X.K X.mg x ps j sp) (hr : Room k X.A) (ha : PA X (e :: es) t) (hj : j ≤ k := by decide) (hg : Gl X x := by rfl)
    (hd : (x == ("__debug__" : Str)) = false := by decide) (he : starEach (e :: es) X.env = (false, eval e X.env) :: starEach es X.env := by rfl)
    (hpl : (backTo pos (starEach es X.env)).any (·.1) = false := by rfl) :
    PE X (.Call (.Name x p) (e :: es) [] pos) (tCall sp [] E0 t) := by
  obtain ⟨f, fd, g, kp, b, F⟩ := C.ex
  exact pe_call (F X.base) (hr.mono hj) hg g kp (fun s us _ hl => by rw [List.append_nil] at hl ⊢; exact b s us hl) .nil pass0 ha hd he hpl
theorem bindsF {K : PySem.W.Frag} {x qual : Str} {st : Stmt} {f : Addr} {fd : FuncData} {ps : List Str} (F : Fun K x qual st f fd)
    (h : ∀ (kV doc pm : Value) (an : Option Addr) (cdv ct : Value) (us : List Value), us.length = ps.length → bindArgs (PySem.W.fnOf x qual (defArgs st) (defBody st) (defScope st) .none kV doc pm an cdv ct) ⟨us, []⟩ = pure (ps.zip us)) (s : Shared) (us : List Value) (hl : us.length = ps.length) : BindsTo s fd ⟨us, []⟩ (ps.zip us) := by
  obtain ⟨oc, od, kV, doc, pm, an, cdv, ct, osl, rfl, lk, hcd⟩ := F.ex
  exact .of_eq (h kV doc pm an cdv ct us hl)
end G

namespace G
open PySem PySem.Spec PyProof.Rows L2
section
variable {K : PySem.W.Frag} {σ σ' : L2.St} {H : Hp} {F : List Addr} {ta tb te : TE} {v u x y : V} {i j : Int} {t tu : TT} {b c a : Bool} {α β : Type} {τ : Ty α} {Q : VK} {D : Ends} {t1 t2 : TS}
theorem val_add (ha : Val ta σ H (.int i)) (hb : Val tb σ H (.int j)) : Val (tOp (rI0 fun i j => .int (i + j)) ta tb) σ H (.int (i + j)) := val_I0 ha hb
theorem val_sub (ha : Val ta σ H (.int i)) (hb : Val tb σ H (.int j)) : Val (tOp (rI0 fun i j => .int (i - j)) ta tb) σ H (.int (i - j)) := val_I0 ha hb
theorem val_lt (ha : Val ta σ H (.int i)) (hb : Val tb σ H (.int j)) : Val (tOp (rI0 fun i j => .bl (decide (i < j))) ta tb) σ H (.bl (decide (i < j))) := val_I0 (g := fun i j => .bl (decide (i < j))) ha hb
theorem val_le (ha : Val ta σ H (.int i)) (hb : Val tb σ H (.int j)) : Val (tOp (rI0 fun i j => .bl (decide (i ≤ j))) ta tb) σ H (.bl (decide (i ≤ j))) := val_I0 (g := fun i j => .bl (decide (i ≤ j))) ha hb
theorem val_gt (ha : Val ta σ H (.int i)) (hb : Val tb σ H (.int j)) : Val (tOp (rI0 fun i j => .bl (decide (j < i))) ta tb) σ H (.bl (decide (j < i))) := val_I0 (g := fun i j => .bl (decide (j < i))) ha hb
theorem val_ge (ha : Val ta σ H (.int i)) (hb : Val tb σ H (.int j)) : Val (tOp (rI0 fun i j => .bl (decide (j ≤ i))) ta tb) σ H (.bl (decide (j ≤ i))) := val_I0 (g := fun i j => .bl (decide (j ≤ i))) ha hb
theorem val_neg (ha : Val ta σ H (.int i)) : Val (tUn (rU fun i => .int (-i)) ta) σ H (.int (-i)) := val_U (g := fun i => .int (-i)) ha
theorem val_mulL (ha : Val ta σ H (.int i)) (hb : Val tb σ H (.int j)) (h : -(2 ^ 64) < i ∧ i < 2 ^ 64) : Val (tOp (rI CMul fun i j => .int (i * j)) ta tb) σ H (.int (i * j)) := val_I (g := fun i j => .int (i * j)) ha hb (.inl h)
theorem val_mulR (ha : Val ta σ H (.int i)) (hb : Val tb σ H (.int j)) (h : -(2 ^ 64) < j ∧ j < 2 ^ 64) : Val (tOp (rI CMul fun i j => .int (i * j)) ta tb) σ H (.int (i * j)) := val_I (g := fun i j => .int (i * j)) ha hb (.inr h)
theorem val_modc (ha : Val ta σ H (.int i)) (hb : Val tb σ H (.int j)) (h : 0 < j) : Val (tOp (rI (fun _ j => 0 < j) fun i j => .int (i % j)) ta tb) σ H (.int (i % j)) := val_I (g := fun i j => .int (i % j)) ha hb h
theorem val_divc (ha : Val ta σ H (.int i)) (hb : Val tb σ H (.int j)) (h : CDiv i j) : Val (tOp (rI CDiv fun i j => .int (i / j)) ta tb) σ H (.int (i / j)) := val_I (g := fun i j => .int (i / j)) ha hb h
theorem val_pow {n : Nat} (ha : Val ta σ H (.int i)) (hb : Val tb σ H (.int j)) (e : j = (n : Int)) (hn : n ≤ 1000000) (h : i.natAbs < 2 ^ 64) : Val (tOp (rI CPow fun i j => .int (i ^ j.toNat)) ta tb) σ H (.int (i ^ n)) := by
  subst e
  exact val_I (g := fun i j => .int (i ^ j.toNat)) ha hb ⟨by omega, by omega, h⟩
theorem val_shl {n : Nat} (ha : Val ta σ H (.int i)) (hb : Val tb σ H (.int j)) (h : CPow i j) : Val (tOp (rI CPow fun i j => .int (i * 2 ^ j.toNat)) ta tb) σ H (.int (i * 2 ^ j.toNat)) := val_I (g := fun i j => .int (i * 2 ^ j.toNat)) ha hb h
theorem val_shr (ha : Val ta σ H (.int i)) (hb : Val tb σ H (.int j)) (h : 0 ≤ j) : Val (tOp (rI (fun _ j => 0 ≤ j) fun i j => .int (i / 2 ^ j.toNat)) ta tb) σ H (.int (i / 2 ^ j.toNat)) := val_I (g := fun i j => .int (i / 2 ^ j.toNat)) ha hb h
theorem ans_B (h : Val te σ H (.bl b)) : Ans (tB te) σ H b := ans_val h
theorem ans_N (h : Ans t σ H b) : Ans (tNot t) σ H (!b) := ans_not h
theorem ans_andB (h1 : Ans t σ H a) (h2 : a = true → Ans tu σ H b) : Ans (tAnd t tu) σ H (a && b) := by
  cases a with
  | true => exact ans_and h1 (h2 rfl)
  | false => exact ans_and0 h1
theorem ans_orB (h1 : Ans t σ H a) (h2 : a = false → Ans tu σ H b) : Ans (tOr t tu) σ H (a || b) := by
  cases a with
  | true => exact ans_or1 h1
  | false => exact ans_or h1 (h2 rfl)
theorem ans_andO {m : Option Bool} (h1 : Ans t σ H a) (hc : (if a = true then m else some false) = some c) (h2 : m = some c → Ans tu σ H c) : Ans (tAnd t tu) σ H c := by
  cases a with
  | true => exact ans_and h1 (h2 hc)
  | false => cases hc; exact ans_and0 h1
theorem ans_orO {m : Option Bool} (h1 : Ans t σ H a) (hc : (if a = true then some true else m) = some c) (h2 : m = some c → Ans tu σ H c) : Ans (tOr t tu) σ H c := by
  cases a with
  | true => cases hc; exact ans_or1 h1
  | false => exact ans_or h1 (h2 hc)
theorem val_notV (h : Val ta σ H (.bl a)) : Val (tNotV ta) σ H (.bl (!a)) := fun Q q => h _ ⟨a, rfl, q⟩
theorem val_andV (h1 : Val ta σ H (.bl a)) (h2 : a = true → Val tb σ H (.bl b)) : Val (tAndV ta tb) σ H (.bl (a && b)) := fun Q q => h1 _ ⟨a, rfl, by
  cases a with
  | true => exact iteT (h2 rfl Q q)
  | false => exact iteF q⟩
theorem val_orV (h1 : Val ta σ H (.bl a)) (h2 : a = false → Val tb σ H (.bl b)) : Val (tOrV ta tb) σ H (.bl (a || b)) := fun Q q => h1 _ ⟨a, rfl, by
  cases a with
  | true => exact iteT q
  | false => exact iteF (h2 rfl Q q)⟩
theorem val_andVO {m : Option Bool} (h1 : Val ta σ H (.bl a)) (hc : (if a = true then m else some false) = some c) (h2 : m = some c → Val tb σ H (.bl c)) : Val (tAndV ta tb) σ H (.bl c) := fun Q q => h1 _ ⟨a, rfl, by
  cases a with
  | true => exact iteT (h2 hc Q q)
  | false => cases hc; exact iteF q⟩
theorem val_orVO {m : Option Bool} (h1 : Val ta σ H (.bl a)) (hc : (if a = true then some true else m) = some c) (h2 : m = some c → Val tb σ H (.bl c)) : Val (tOrV ta tb) σ H (.bl c) := fun Q q => h1 _ ⟨a, rfl, by
  cases a with
  | true => cases hc; exact iteT q
  | false => exact iteF (h2 hc Q q)⟩
/-! ### readings taken apart -/
theorem w_op {r : R2} (h : ta σ H fun x H1 => tb σ H1 fun y H2 => r x y H2 Q) : tOp r ta tb σ H Q := h
theorem w_un {r : V → Hp → VK → Prop} (h : ta σ H fun x H1 => r x H1 Q) : tUn r ta σ H Q := h
theorem w_cb {r : List V → Hp → VK → Prop} {ts : TA} (h : ts σ H fun vs H1 => r vs H1 Q) : tCB r ts σ H Q := h
theorem w_call {sp : Sp} {dvs : List V} {E : XK} {ts : TA} (h : ts σ H fun vs H1 => sp (vs ++ dvs) H1 Q E) : tCall sp dvs E ts σ H Q := h
theorem w_cons {tr : TA} {Q : List V → Hp → Prop} (h : ta σ H fun x H1 => tr σ H1 fun xs H2 => Q (x :: xs) H2) : tCons ta tr σ H Q := h
theorem w_nil {Q : List V → Hp → Prop} (h : Q [] H) : tNil σ H Q := h
theorem w_args {ts : TA} {vs : List V} {Q : List V → Hp → Prop} (h : VaA ts σ H vs) (k : Q vs H) : ts σ H Q := h Q k
def LstG (xs : List V) (H : Hp) (Q : VK) : Prop := xs.length ≤ sizeLine ∧ ∀ p, H p = none → Q (.ref p) (upd H p (.lst xs))
def TupG (xs : List V) (H : Hp) (Q : VK) : Prop := xs.length ≤ sizeLine ∧ ∀ p, H p = none → Q (.ref p) (upd H p (.tup xs))
theorem w_lst {ts : TA} (h : ts σ H fun xs H1 => LstG xs H1 Q) : L2.tLst ts σ H Q := h
theorem w_tup {ts : TA} (h : ts σ H fun xs H1 => TupG xs H1 Q) : L2.tTup ts σ H Q := h
theorem w_test {Q : Bool → Hp → Prop} (h : te σ H fun x H' => ∃ k, x = .bl k ∧ Q k H') : tTest te σ H Q := h
theorem w_B {Q : Bool → Hp → Prop} (h : te σ H fun x H' => ∃ k, x = .bl k ∧ Q k H') : tB te σ H Q := h
theorem w_bl {Q : Bool → Hp → Prop} (k : Q b H) : ∃ k, V.bl b = .bl k ∧ Q k H := ⟨b, rfl, k⟩
theorem w_not {Q : Bool → Hp → Prop} (h : t σ H fun c H1 => Q (!c) H1) : tNot t σ H Q := h
theorem w_and {Q : Bool → Hp → Prop} (h : t σ H fun c H1 => if c = true then tu σ H1 Q else Q false H1) : tAnd t tu σ H Q := h
theorem w_or {Q : Bool → Hp → Prop} (h : t σ H fun c H1 => if c = true then Q true H1 else tu σ H1 Q) : tOr t tu σ H Q := h
theorem w_andV (h : ta σ H fun x H1 => ∃ c, x = .bl c ∧ if c = true then tb σ H1 Q else Q (.bl false) H1) : tAndV ta tb σ H Q := h
theorem w_orV (h : ta σ H fun x H1 => ∃ c, x = .bl c ∧ if c = true then Q (.bl true) H1 else tb σ H1 Q) : tOrV ta tb σ H Q := h
theorem w_notV (h : ta σ H fun x H1 => ∃ c, x = .bl c ∧ Q (.bl (!c)) H1) : tNotV ta σ H Q := h
theorem w_blV {P : Bool → Prop} (k : P b) : ∃ k, V.bl b = .bl k ∧ P k := ⟨b, rfl, k⟩
theorem w_I0 {g : Int → Int → V} (k : Q (g i j) H) : rI0 g (.int i) (.int j) H Q := ⟨i, j, rfl, rfl, k⟩
theorem w_I {C : Int → Int → Prop} {g : Int → Int → V} (hc : C i j) (k : Q (g i j) H) : rI C g (.int i) (.int j) H Q := ⟨i, j, rfl, rfl, hc, k⟩
theorem w_U {g : Int → V} (k : Q (g i) H) : rU g (.int i) H Q := ⟨i, rfl, k⟩
theorem w_mul {r : Int} (h : Mi.mul i j = some r) (k : Q (.int r) H) : rI CMul (fun i j => .int (i * j)) (.int i) (.int j) H Q := ⟨i, j, rfl, rfl, (mulC h).1, by show Q (.int (i * j)) H; rw [(mulC h).2]; exact k⟩
theorem w_mod {r : Int} (h : Mi.mod i j = some r) (k : Q (.int r) H) : rI (fun _ j => 0 < j) (fun i j => .int (i % j)) (.int i) (.int j) H Q := ⟨i, j, rfl, rfl, (modC h).1, by show Q (.int (i % j)) H; rw [(modC h).2]; exact k⟩
theorem w_fdiv {r : Int} (h : Mi.fdiv i j = some r) (k : Q (.int r) H) : rI CDivW (fun i j => .int (i / j)) (.int i) (.int j) H Q := ⟨i, j, rfl, rfl, (divC h).1, by show Q (.int (i / j)) H; rw [(divC h).2]; exact k⟩
theorem w_eqI (k : Q (.bl (decide (i = j))) H) : rEq (.int i) (.int j) H Q := ⟨rfl, by rw [dI]; exact k⟩
theorem w_neI (k : Q (.bl (!decide (i = j))) H) : rNe (.int i) (.int j) H Q := ⟨rfl, by rw [dI]; exact k⟩
theorem w_eqB (k : Q (.bl (decide (b = c))) H) : rEq (.bl b) (.bl c) H Q := ⟨rfl, by rw [dB]; exact k⟩
theorem w_neB (k : Q (.bl (!decide (b = c))) H) : rNe (.bl b) (.bl c) H Q := ⟨rfl, by rw [dB]; exact k⟩
theorem w_int (k : Q (.int i) H) : rInt1 [.int i] H Q := .inl ⟨i, rfl, k⟩
theorem w_max2 (k : Q (.int (max i j)) H) : rMax2 [.int i, .int j] H Q := ⟨i, j, rfl, by
  have e : (if j > i then j else i) = max i j := by split <;> omega
  rw [e]; exact k⟩
theorem w_min2 (k : Q (.int (min i j)) H) : rMin2 [.int i, .int j] H Q := ⟨i, j, rfl, by
  have e : (if j < i then j else i) = min i j := by split <;> omega
  rw [e]; exact k⟩
theorem w_lenL {xs : List α} (r : (yLst τ).rep K H F v xs) (k : Q (.int (xs.length : Int)) H) : rLenQ K [v] H Q := by
  obtain ⟨a, vs, e, s, q⟩ := lst_sq r
  subst e
  exact ⟨a, vs, rfl, .inl s, by rw [pr_len q]; exact k⟩
theorem w_lenT {xs : List α} (r : (yTupL τ).rep K H F v xs) (k : Q (.int (xs.length : Int)) H) : rLenQ K [v] H Q := by
  obtain ⟨a, vs, e, s, q⟩ := tupl_sq r
  subst e
  exact ⟨a, vs, rfl, .inr s, by rw [pr_len q]; exact k⟩
theorem w_ixL {xs : List α} {x : α} (r : (yLst τ).rep K H F v xs) (h : Mi.at_ xs i = some x) (k : ∀ u, τ.rep K H [] u x → Q u H) : rIxL K v (.int i) H Q := by
  obtain ⟨a, vs, e, s, q⟩ := lst_sq r
  subst e
  obtain ⟨u, e, ru⟩ := pr_at q h
  exact ⟨a, vs, i, u, rfl, rfl, s, e, k u ru⟩
theorem w_ixT {xs : List α} {x : α} (r : (yTupL τ).rep K H F v xs) (h : Mi.at_ xs i = some x) (k : ∀ u, τ.rep K H [] u x → Q u H) : rIxT K v (.int i) H Q := by
  obtain ⟨a, vs, e, s, q⟩ := tupl_sq r
  subst e
  obtain ⟨u, e, ru⟩ := pr_at q h
  exact ⟨a, vs, i, u, rfl, rfl, s, e, k u ru⟩
theorem e_lst {vs : List V} {xs : List α} (z : vs.length ≤ Mi.big) (r : Paired (fun u x => τ.rep K H [] u x) vs xs) (k : ∀ p H', H p = none → Chg [] H H' → (yLst τ).rep K H' [p] (.ref p) xs → Q (.ref p) H') :
    LstG vs H Q := ⟨sz z, fun p np => k p _ np (Chg.new np)
      ⟨p, vs, rfl, rfl, upd_same, Paired.mapP r fun u x q => Ty.ex q (Chg.new np)⟩⟩
theorem e_tup {ty : Tys α} {vs : List V} {d : α} {F : List Addr} (z : vs.length ≤ Mi.big) (r : ty.rep K H F vs d) (k : ∀ p H', H p = none → Chg [] H H' → (yTup ty).rep K H' F (.ref p) d → Q (.ref p) H') :
    TupG vs H Q := ⟨sz z, fun p np => k p _ np (Chg.new np)
      ⟨p, vs, rfl, .inl (.inl upd_same), ty.keep r fun b o e _ => by rw [upd_ne (ne_of_none e np)]; exact e⟩⟩
/-! ### statements -/
theorem w_asg {g : TG} (h : te σ H fun x H1 => g x σ H1 D.nx) : tAsg te g D σ H := h
theorem w_drop (h : te σ H fun _ H1 => D.nx σ H1) : tDrop te D σ H := h
theorem w_ret (h : te σ H D.rt) : tRet te D σ H := h
theorem w_retN (h : D.rt .non H) : tRetN D σ H := h
theorem w_next (h : D.nx σ H) : tNext D σ H := h
theorem w_cont (h : D.ct σ H) : tCont D σ H := h
theorem w_break (h : D.bk σ H) : tBreak D σ H := h
theorem w_ifS (h : t σ H fun b H1 => if b = true then t1 D σ H1 else t2 D σ H1) : tIfS t t1 t2 D σ H := h
theorem w_ifE (h : t σ H fun c H1 => if c = true then ta σ H1 Q else tb σ H1 Q) : tIf t ta tb σ H Q := h
theorem w_gsub {to ti : TE} {ts : TSet} {Q : L2.St → Hp → Prop} (h : to σ H fun o H1 => ti σ H1 fun i H2 => ts o i v H2 fun H3 => Q σ H3) : gSub to ti ts v σ H Q := h
theorem w_bm {T : String} {r : V → List V → Hp → VK → Prop} {to : TE} {ts : TA} (h : to σ H fun x H1 => tyV K T x H1 ∧ ts σ H1 fun xs H2 => r x xs H2 Q) : tBM K T r to ts σ H Q := h
theorem w_bm0 {T : String} {r : V → List V → Hp → VK → Prop} {to : TE} (h : to σ H fun x H1 => tyV K T x H1 ∧ r x [] H1 Q) : tBM0 K T r to σ H Q := h
theorem tyv_lst {xs : List α} (r : (yLst τ).rep K H F v xs) : tyV K "list" v H := by
  obtain ⟨a, vs, rfl, s, q⟩ := lst_sq r
  exact .inl ⟨rfl, _, s⟩
/-- a join of tests -/
theorem j_tt {R : Hp → Prop} {Q : Bool → Hp → Prop} (c : Bool) (w : ∀ Q' : Bool → Hp → Prop, (∀ H', R H' → Q' c H') → t σ H Q') (k : ∀ H', R H' → Q c H') : t σ H Q := w Q k
theorem j_te {R : Hp → Prop} (x : V) (w : ∀ Q' : VK, (∀ H', R H' → Q' x H') → te σ H Q') (k : ∀ H', R H' → Q x H') : te σ H Q := w Q k
/-! ### statements with what follows -/
theorem q_asg {g : TG} (h : te σ H fun x H1 => g x σ H1 (t2 D)) : tSeq (tAsg te g) t2 D σ H := h
theorem q_setE {k : Nat} {w : V} (h : Val te σ H v) (ev : v = w) (e : σ.set k (some w) = σ') (q : t2 D σ' H) : tSeq (tAsg te (gName k)) t2 D σ H := by
  subst ev
  exact h _ (by show t2 D (σ.set k (some v)) H; rw [e]; exact q)
theorem q_drop (h : te σ H fun _ H1 => t2 D σ H1) : tSeq (tDrop te) t2 D σ H := h
theorem q_ret (h : te σ H D.rt) : tSeq (tRet te) t2 D σ H := h
theorem q_retN (h : D.rt .non H) : tSeq tRetN t2 D σ H := h
theorem q_pass (h : t2 D σ H) : tSeq tNext t2 D σ H := h
theorem q_cont (h : D.ct σ H) : tSeq tCont t2 D σ H := h
theorem q_brk (h : D.bk σ H) : tSeq tBreak t2 D σ H := h
theorem q_if {t3 : TS} (h : Ans t σ H b) (h1 : b = true → t1 { D with nx := t2 D } σ H) (h2 : b = false → t3 { D with nx := t2 D } σ H) : tSeq (tIfS t t1 t3) t2 D σ H := h _ (c_if h1 h2)
theorem q_ifS {t3 : TS} (h : t σ H fun b H1 => if b = true then t1 { D with nx := t2 D } σ H1 else t3 { D with nx := t2 D } σ H1) : tSeq (tIfS t t1 t3) t2 D σ H := h
theorem w_fall (h : t2 D σ H) : tNext { D with nx := t2 D } σ H := h
theorem w_nextJ {nx bk ct : L2.St → Hp → Prop} {rt : VK} (h : nx σ H) : tNext (Ends.mk nx rt bk ct) σ H := h
theorem q_aug {k : Nat} {f : Int → Int → Int} {m n p : Int} (hx : σ[k]? = some (some (.int m))) (h : Val te σ H (.int n)) (en : f m n = p) (e : σ.set k (some (.int p)) = σ') (q : t2 D σ' H) : tSeq (tAug k te (ipI f)) t2 D σ H :=
  ⟨_, hx, h _ ⟨m, n, rfl, rfl, by rw [en]; show t2 D (List.set σ k (some (.int p))) H; rw [e]; exact q⟩⟩
/-! ### loops -/
def LoopG (J : It) (g : TG) (tb : TS) (D : Ends) (nx : L2.St → Hp → Prop) (σ : L2.St) (H : Hp) : Prop := ∃ W : Nat → Nat → L2.St → Hp → Prop, (∃ m, W 0 m σ H) ∧ ∀ i m σ H, W i m σ H →
  (J.stop i H ∧ nx σ H) ∨ (J.go i H ∧ ∃ N : L2.St → Hp → Prop, (∀ σ' H', N σ' H' → ∃ m', m' < m ∧ W (i + 1) m' σ' H') ∧ ∀ x H', J.yld i H x H' → g x σ H' fun σ2 H2 => tb { D with nx := N, ct := N, bk := nx } σ2 H2)
theorem q_for {wi : TI} {g : TG} {tb : TS} (h : wi σ H fun J H1 => LoopG J g tb D (t2 D) σ H1) : tSeq (tFor wi g tb) t2 D σ H := h
theorem w_iList {tl : TE} {R : It → Hp → Prop} (h : tl σ H fun x H1 => ∃ a, x = .ref a ∧ (∃ xs, SqL K H1 a xs) ∧ R (Itl K a) H1) : iList K tl σ H R := h
theorem w_iTup {tl : TE} {R : It → Hp → Prop} (h : tl σ H fun x H1 => ∃ a, x = .ref a ∧ (∃ xs, SqT K H1 a xs) ∧ R (Itt K a) H1) : iTup K tl σ H R := h
theorem w_iRng1 {ts : TA} {R : It → Hp → Prop} (h : ts σ H fun vs H1 => ∃ j : Int, vs = [.int j] ∧ -(2 ^ 62) ≤ j ∧ j < 2 ^ 62 ∧ R (Itr 0 j.toNat) H1) : iRng1 ts σ H R := h
theorem w_iRng2 {ts : TA} {R : It → Hp → Prop} (h : ts σ H fun vs H1 => ∃ i j : Int, vs = [.int i, .int j] ∧ (-(2 ^ 62) ≤ i ∧ i < 2 ^ 62 ∧ -(2 ^ 62) ≤ j ∧ j < 2 ^ 62) ∧ R (Itr i (j - i).toNat) H1) : iRng2 ts σ H R := h
theorem rngO_some {lo hi : Int} {g : List Int} (h : Mi.rngO lo hi = some g) : g = Mi.rng lo hi ∧ (-(2 ^ 60) ≤ lo ∧ lo < 2 ^ 60) ∧ (-(2 ^ 60) ≤ hi ∧ hi < 2 ^ 60) := by
  unfold Mi.rngO at h
  split at h
  · rename_i c
    exact ⟨(Option.some.inj h).symm, c⟩
  · cases h
theorem rng_len (lo hi : Int) : (Mi.rng lo hi).length = (hi - lo).toNat := by unfold Mi.rng; rw [List.length_map, List.length_range]
theorem rng_at {lo hi : Int} {i : Nat} (h : i < (hi - lo).toNat) : (Mi.rng lo hi)[i]? = some (lo + i) := by
  unfold Mi.rng
  rw [List.getElem?_map, List.getElem?_range h]
  rfl
theorem l_rng {g : TG} {tb : TS} {nx : L2.St → Hp → Prop} {lo hi : Int} (Pv : Nat → L2.St → Hp → Prop) (h0 : Pv 0 σ H)
    (hs : ∀ (i : Nat) (x : Int) σ' H', (Mi.rng lo hi)[i]? = some x → Pv i σ' H' → g (.int x) σ' H' fun σ2 H2 => tb { D with nx := Pv (i + 1), ct := Pv (i + 1), bk := nx } σ2 H2) (hd : ∀ σ' H', Pv (Mi.rng lo hi).length σ' H' → nx σ' H') :
    LoopG (Itr lo (hi - lo).toNat) g tb D nx σ H := for_range (D := { D with nx := nx }) (lo := lo) (n := (hi - lo).toNat) Pv h0 (fun i σ' H' hi' p => hs i _ σ' H' (rng_at hi') p) (fun σ' H' p => hd σ' H' (by rw [rng_len]; exact p))
theorem l_rng1 {g : TG} {tb : TS} {nx : L2.St → Hp → Prop} {hi : Int} {xs : List Int} (hg : Mi.rngO 0 hi = some xs) (Pv : Nat → L2.St → Hp → Prop) (h0 : Pv 0 σ H)
    (hs : ∀ (i : Nat) (x : Int) σ' H', xs[i]? = some x → Pv i σ' H' → g (.int x) σ' H' fun σ2 H2 => tb { D with nx := Pv (i + 1), ct := Pv (i + 1), bk := nx } σ2 H2) (hd : ∀ σ' H', Pv xs.length σ' H' → nx σ' H') :
    ∃ j : Int, [V.int hi] = [.int j] ∧ -(2 ^ 62) ≤ j ∧ j < 2 ^ 62 ∧ LoopG (Itr 0 j.toNat) g tb D nx σ H := by
  obtain ⟨rfl, _, h1, h2⟩ := rngO_some hg
  refine ⟨hi, rfl, by omega, by omega, ?_⟩
  have e : hi.toNat = (hi - 0).toNat := by rw [Int.sub_zero]
  rw [e]
  exact l_rng Pv h0 hs hd
theorem l_rng2 {g : TG} {tb : TS} {nx : L2.St → Hp → Prop} {lo hi : Int} {xs : List Int} (hg : Mi.rngO lo hi = some xs) (Pv : Nat → L2.St → Hp → Prop) (h0 : Pv 0 σ H)
    (hs : ∀ (i : Nat) (x : Int) σ' H', xs[i]? = some x → Pv i σ' H' → g (.int x) σ' H' fun σ2 H2 => tb { D with nx := Pv (i + 1), ct := Pv (i + 1), bk := nx } σ2 H2) (hd : ∀ σ' H', Pv xs.length σ' H' → nx σ' H') :
    ∃ i j : Int, [V.int lo, V.int hi] = [.int i, .int j] ∧ (-(2 ^ 62) ≤ i ∧ i < 2 ^ 62 ∧ -(2 ^ 62) ≤ j ∧ j < 2 ^ 62) ∧ LoopG (Itr i (j - i).toNat) g tb D nx σ H := by
  obtain ⟨rfl, h1, h2⟩ := rngO_some hg
  exact ⟨lo, hi, rfl, by omega, l_rng Pv h0 hs hd⟩
theorem l_lst {g : TG} {tb : TS} {nx : L2.St → Hp → Prop} {xs : List α} (r : (yLst τ).rep K H F v xs) (Pv : Nat → L2.St → Hp → Prop) (h0 : Pv 0 σ H) (hl : ∀ i σ' H', Pv i σ' H' → (yLst τ).rep K H' F v xs)
    (hs : ∀ (i : Nat) (x : α) (u : V) σ' H', xs[i]? = some x → τ.rep K H' [] u x → Pv i σ' H' → g u σ' H' fun σ2 H2 => tb { D with nx := Pv (i + 1), ct := Pv (i + 1), bk := nx } σ2 H2) (hd : ∀ σ' H', Pv xs.length σ' H' → nx σ' H') :
    ∃ a, v = .ref a ∧ (∃ xs, SqL K H a xs) ∧ LoopG (Itl K a) g tb D nx σ H := by
  obtain ⟨a, vs, e, s, q⟩ := lst_sq r
  refine ⟨a, e, ⟨vs, s⟩, fun i m σ' H' => m = xs.length - i ∧ i ≤ xs.length ∧ Pv i σ' H', ⟨xs.length, by omega, Nat.zero_le _, h0⟩, ?_⟩
  rintro i m σ' H' ⟨rfl, hi, p⟩
  obtain ⟨a', vs', e', s', q'⟩ := lst_sq (hl i σ' H' p)
  obtain rfl : a = a' := by rw [e] at e'; exact V.ref.inj e'
  by_cases hlt : i < xs.length
  · obtain ⟨u, hu, ru⟩ := pr_get q' (List.getElem?_eq_getElem hlt)
    refine .inr ⟨⟨vs', u, s', hu⟩, Pv (i + 1), fun σ2 H2 p' => ⟨xs.length - (i + 1), by omega, rfl, hlt, p'⟩, fun x H2 y => ?_⟩
    obtain ⟨rfl, y⟩ := y
    obtain rfl : x = u := Option.some.inj ((y _ s').symm.trans hu)
    exact hs i _ _ σ' _ (List.getElem?_eq_getElem hlt) ru p
  · obtain rfl : i = xs.length := by omega
    exact .inl ⟨⟨vs', s', by rw [pr_len q']; exact Nat.le_refl _⟩, hd σ' H' p⟩
theorem l_tup {g : TG} {tb : TS} {nx : L2.St → Hp → Prop} {xs : List α} (r : (yTupL τ).rep K H F v xs) (Pv : Nat → L2.St → Hp → Prop) (h0 : Pv 0 σ H) (hl : ∀ i σ' H', Pv i σ' H' → (yTupL τ).rep K H' F v xs)
    (hs : ∀ (i : Nat) (x : α) (u : V) σ' H', xs[i]? = some x → τ.rep K H' [] u x → Pv i σ' H' → g u σ' H' fun σ2 H2 => tb { D with nx := Pv (i + 1), ct := Pv (i + 1), bk := nx } σ2 H2) (hd : ∀ σ' H', Pv xs.length σ' H' → nx σ' H') :
    ∃ a, v = .ref a ∧ (∃ xs, SqT K H a xs) ∧ LoopG (Itt K a) g tb D nx σ H := by
  obtain ⟨a, vs, e, s, q⟩ := tupl_sq r
  refine ⟨a, e, ⟨vs, s⟩, fun i m σ' H' => m = xs.length - i ∧ i ≤ xs.length ∧ Pv i σ' H', ⟨xs.length, by omega, Nat.zero_le _, h0⟩, ?_⟩
  rintro i m σ' H' ⟨rfl, hi, p⟩
  obtain ⟨a', vs', e', s', q'⟩ := tupl_sq (hl i σ' H' p)
  obtain rfl : a = a' := by rw [e] at e'; exact V.ref.inj e'
  by_cases hlt : i < xs.length
  · obtain ⟨u, hu, ru⟩ := pr_get q' (List.getElem?_eq_getElem hlt)
    refine .inr ⟨⟨vs', u, s', hu⟩, Pv (i + 1), fun σ2 H2 p' => ⟨xs.length - (i + 1), by omega, rfl, hlt, p'⟩, fun x H2 y => ?_⟩
    obtain ⟨rfl, y⟩ := y
    obtain rfl : x = u := Option.some.inj ((y _ s').symm.trans hu)
    exact hs i _ _ σ' _ (List.getElem?_eq_getElem hlt) ru p
  · obtain rfl : i = xs.length := by omega
    exact .inl ⟨⟨vs', s', by rw [pr_len q']; exact Nat.le_refl _⟩, hd σ' H' p⟩
end
/-! ### the items of tuples -/
/-- the n-th item has the kind τ and the data p d -/
def At {α β : Type} (ts : Tys α) (n : Nat) (τ : Ty β) (p : α → β) : Prop := ∀ {K : PySem.W.Frag} {H : Hp} {F : List Addr} {vs : List V} {d : α}, ts.rep K H F vs d → ∃ u F1, vs[n]? = some u ∧ τ.rep K H F1 u (p d) ∧ ∀ a ∈ F1, a ∈ F
theorem at1 {α : Type} {τ : Ty α} : At (sOne τ) 0 τ id := fun h => by
  obtain ⟨v, rfl, r⟩ := h
  exact ⟨v, _, rfl, r, fun _ h => h⟩
theorem at0 {α β : Type} {τ : Ty α} {ts : Tys β} : At (sCons τ ts) 0 τ (fun d => d.1) := fun h => by
  obtain ⟨v, ws, F1, F2, rfl, rfl, r, q⟩ := h
  exact ⟨v, F1, rfl, r, fun _ h => List.mem_append_left _ h⟩
theorem atS {α β γ : Type} {τ : Ty α} {ts : Tys β} {n : Nat} {υ : Ty γ} {p : β → γ} (A : At ts n υ p) : At (sCons τ ts) (n + 1) υ (fun d => p d.2) := fun h => by
  obtain ⟨v, ws, F1, F2, rfl, rfl, r, q⟩ := h
  obtain ⟨u, F3, e, ru, sub⟩ := A q
  exact ⟨u, F3, e, ru, fun _ h => List.mem_append_right _ (sub _ h)⟩
theorem Dj.sub {F G F1 : List Addr} (d : Dj F G) (s : ∀ a ∈ F1, a ∈ F) : Dj F1 G := fun a h => d a (s a h)
theorem itm_tup {α β : Type} {ts : Tys α} {n : Nat} {τ : Ty β} {p : α → β} {K : PySem.W.Frag} {H : Hp} {F : List Addr} {v : V} {d : α} (A : At ts n τ p) (r : (yTup ts).rep K H F v d) :
    ∃ u F1, τ.rep K H F1 u (p d) ∧ (∀ a ∈ F1, a ∈ F) ∧ (∀ {Q : VK}, Q u H → rIxT K v (.int (n : Int)) H Q) ∧ ∀ {σ : L2.St} {ta tb : TE}, Val ta σ H v → Val tb σ H (.int (n : Int)) → Val (tOp (rIxT K) ta tb) σ H u := by
  obtain ⟨a, vs, rfl, s, q⟩ := r
  obtain ⟨u, F1, e, ru, sub⟩ := A q
  have k : ∀ {Q : VK}, Q u H → rIxT K (.ref a) (.int (n : Int)) H Q := fun k => ⟨a, vs, n, u, rfl, rfl, s, atI_nat e, k⟩
  exact ⟨u, F1, ru, sub, k, fun ha hb => val_op ha hb fun Q q => k q⟩
end G

namespace G
open PySem PySem.Spec PyProof.Rows L2
section
variable {K : PySem.W.Frag} {σ σ' : L2.St} {H : Hp} {F G F1 F2 : List Addr} {ta tb te : TE} {v u x y w : V} {i j : Int} {t tu : TT} {b c a : Bool} {α β : Type} {τ : Ty α} {Q : VK} {D : Ends} {t1 t2 : TS}
theorem s_setE {k : Nat} (h : Val te σ H v) (ev : v = w) (e : σ.set k (some w) = σ') (q : D.nx σ' H) : tAsg te (gName k) D σ H := s_set (ev ▸ h) e q
theorem g_nameE {k : Nat} {Q : L2.St → Hp → Prop} (ev : v = w) (e : σ.set k (some w) = σ') (q : Q σ' H) : gName k v σ H Q := g_name (by rw [ev]; exact e) q
theorem s_aug {k : Nat} {f : Int → Int → Int} {m n p : Int} (hx : σ[k]? = some (some (.int m))) (h : Val te σ H (.int n)) (en : f m n = p) (e : σ.set k (some (.int p)) = σ') (q : D.nx σ' H) : tAug k te (ipI f) D σ H :=
  ⟨_, hx, h _ ⟨m, n, rfl, rfl, by rw [en]; show D.nx (List.set σ k (some (.int p))) H; rw [e]; exact q⟩⟩
/-! ### None or data -/
theorem nn_int : V.int i ≠ .non := fun z => nomatch z
theorem nn_bl : V.bl b ≠ .non := fun z => nomatch z
theorem nn_str {s : Str} : V.str s ≠ .non := fun z => nomatch z
theorem nn_lst {xs : List α} (r : (yLst τ).rep K H F v xs) : v ≠ .non := by obtain ⟨a, vs, rfl, _⟩ := r; exact fun z => nomatch z
theorem nn_tupl {xs : List α} (r : (yTupL τ).rep K H F v xs) : v ≠ .non := by obtain ⟨a, vs, rfl, _⟩ := r; exact fun z => nomatch z
theorem nn_tup {ts : Tys α} {d : α} (r : (yTup ts).rep K H F v d) : v ≠ .non := by obtain ⟨a, vs, rfl, _⟩ := r; exact fun z => nomatch z
theorem opt_some {d : Option α} {x : α} (r : (yOpt τ).rep K H F v d) (h : d = some x) : τ.rep K H F v x := by subst h; exact r.2
theorem opt_int {d : Option Int} {x : Int} (r : (yOpt yInt).rep K H F v d) (h : d = some x) : F = [] ∧ v = .int x := opt_some r h
theorem opt_bool {d : Option Bool} {x : Bool} (r : (yOpt yBool).rep K H F v d) (h : d = some x) : F = [] ∧ v = .bl x := opt_some r h
theorem opt_str {d : Option Str} {x : Str} (r : (yOpt yStr).rep K H F v d) (h : d = some x) : F = [] ∧ v = .str x := opt_some r h
theorem opt_dec {d : Option α} (r : (yOpt τ).rep K H F v d) : decide (v = .non) = d.isNone := by
  cases d with
  | none => obtain ⟨_, rfl⟩ := r; rfl
  | some x => exact decide_eq_false r.1
theorem opt_decN {d : Option α} (r : (yOpt τ).rep K H F v d) : (!decide (v = .non)) = d.isSome := by
  rw [opt_dec r]; cases d <;> rfl
theorem val_isN {d : Option α} (r : (yOpt τ).rep K H F v d) (ha : Val ta σ H v) : Val (tOp rIsN ta (tC .non)) σ H (.bl d.isNone) := val_op ha val_c fun Q q => ⟨rfl, by rw [opt_dec r]; exact q⟩
theorem val_notN {d : Option α} (r : (yOpt τ).rep K H F v d) (ha : Val ta σ H v) : Val (tOp rNotN ta (tC .non)) σ H (.bl d.isSome) := val_op ha val_c fun Q q => ⟨rfl, by rw [opt_decN r]; exact q⟩
theorem w_isN {d : Option α} (r : (yOpt τ).rep K H F v d) (k : Q (.bl d.isNone) H) : rIsN v .non H Q := ⟨rfl, by rw [opt_dec r]; exact k⟩
theorem w_notN {d : Option α} (r : (yOpt τ).rep K H F v d) (k : Q (.bl d.isSome) H) : rNotN v .non H Q := ⟨rfl, by rw [opt_decN r]; exact k⟩
/-! ### footprints -/
theorem Dj.app (d1 : Dj F1 G) (d2 : Dj F2 G) : Dj (F1 ++ F2) G := fun a h => (List.mem_append.mp h).elim (d1 a) (d2 a)
theorem app_fresh {H0 : Hp} (n1 : ∀ a ∈ F1, H0 a = none) (n2 : ∀ a ∈ F2, H0 a = none) : ∀ a ∈ F1 ++ F2, H0 a = none := fun a h => (List.mem_append.mp h).elim (n1 a) (n2 a)
theorem nil_fresh {H0 : Hp} : ∀ a ∈ ([] : List Addr), H0 a = none := fun a h => nomatch h
def Fz {α : Type} (τ : Ty α) : Prop := ∀ {K : PySem.W.Frag} {H : Hp} {F : List Addr} {v : V} {d : α}, τ.rep K H F v d → F = []
def Fzs {α : Type} (τ : Tys α) : Prop := ∀ {K : PySem.W.Frag} {H : Hp} {F : List Addr} {v : List V} {d : α}, τ.rep K H F v d → F = []
theorem fz_int : Fz yInt := fun h => h.1
theorem fz_bool : Fz yBool := fun h => h.1
theorem fz_str : Fz yStr := fun h => h.1
theorem fz_none : Fz yNon := fun h => h.1
theorem fz_scr : Fz yScr := fun h => h.1
theorem fz_tupl {τ : Ty α} : Fz (yTupL τ) := fun h => by obtain ⟨_, _, _, e, _⟩ := h; exact e
theorem fz_opt {τ : Ty α} (z : Fz τ) : Fz (yOpt τ) := fun {K H F v d} h => by
  cases d with
  | none => exact h.1
  | some x => exact z h.2
theorem fzs_one {τ : Ty α} (z : Fz τ) : Fzs (sOne τ) := fun h => by obtain ⟨_, _, r⟩ := h; exact z r
theorem fzs_cons {τ : Ty α} {ts : Tys β} (z : Fz τ) (zs : Fzs ts) : Fzs (sCons τ ts) := fun h => by
  obtain ⟨_, _, F1, F2, _, e, r, q⟩ := h
  rw [e, z r, zs q]; rfl
theorem fz_tup {ts : Tys α} (z : Fzs ts) : Fz (yTup ts) := fun h => by obtain ⟨_, _, _, _, r⟩ := h; exact z r
def LenS {α : Type} (ts : Tys α) (n : Nat) : Prop := ∀ {K : PySem.W.Frag} {H : Hp} {F : List Addr} {vs : List V} {d : α}, ts.rep K H F vs d → vs.length = n
theorem lens_one {τ : Ty α} : LenS (sOne τ) 1 := fun h => by obtain ⟨_, e, _⟩ := h; rw [e]; rfl
theorem lens_cons {τ : Ty α} {ts : Tys β} {n : Nat} (z : LenS ts n) : LenS (sCons τ ts) (n + 1) := fun h => by
  obtain ⟨_, _, _, _, e, _, _, q⟩ := h
  rw [e, List.length_cons, z q]
theorem val_lenU {ts : Tys α} {d : α} {n : Nat} (l : LenS ts n) (r : (yTup ts).rep K H F v d) (ha : Val ta σ H v) : Val (tCB (rLenQ K) (tCons ta tNil)) σ H (.int (n : Int)) := by
  obtain ⟨p, vs, rfl, s, q⟩ := r
  exact fun Q k => ha _ ⟨p, vs, rfl, .inr s, by rw [l q]; exact k⟩
/-! ### unpacking -/
theorem g_names {Q : L2.St → Hp → Prop} {σ1 : L2.St} (e : σ1 = σ') (k : Q σ' H) : Q σ1 H := e ▸ k
theorem g_tup2 {β : Type} {τ1 : Ty α} {τ2 : Ty β} {d : α × β} {i1 i2 : Nat} {Q : L2.St → Hp → Prop} (r : (yTup (sCons τ1 (sOne τ2))).rep K H [] v d)
    (k : ∀ u1 u2, τ1.rep K H [] u1 d.1 → τ2.rep K H [] u2 d.2 → Q ((σ.set i1 (some u1)).set i2 (some u2)) H) : gTup K 2 (gCons (gName i1) (gCons (gName i2) gNil)) v σ H Q := by
  obtain ⟨a, vs, rfl, s, v1, ws, F1, F2, rfl, e, r1, v2, rfl, r2⟩ := r
  obtain ⟨rfl, rfl⟩ : F1 = [] ∧ F2 = [] := List.append_eq_nil_iff.mp e.symm
  exact ⟨a, _, rfl, s, rfl, v1, _, rfl, v2, _, rfl, rfl, k v1 v2 r1 r2⟩
theorem g_tup3 {β γ : Type} {τ1 : Ty α} {τ2 : Ty β} {τ3 : Ty γ} {d : α × β × γ} {i1 i2 i3 : Nat} {Q : L2.St → Hp → Prop} (r : (yTup (sCons τ1 (sCons τ2 (sOne τ3)))).rep K H [] v d)
    (k : ∀ u1 u2 u3, τ1.rep K H [] u1 d.1 → τ2.rep K H [] u2 d.2.1 → τ3.rep K H [] u3 d.2.2 → Q (((σ.set i1 (some u1)).set i2 (some u2)).set i3 (some u3)) H) : gTup K 3 (gCons (gName i1) (gCons (gName i2) (gCons (gName i3) gNil))) v σ H Q := by
  obtain ⟨a, vs, rfl, s, v1, ws, F1, F2, rfl, e, r1, v2, ws2, F3, F4, rfl, e2, r2, v3, rfl, r3⟩ := r
  obtain ⟨rfl, rfl⟩ : F1 = [] ∧ F2 = [] := List.append_eq_nil_iff.mp e.symm
  obtain ⟨rfl, rfl⟩ : F3 = [] ∧ F4 = [] := List.append_eq_nil_iff.mp e2.symm
  exact ⟨a, _, rfl, s, rfl, v1, _, rfl, v2, _, rfl, v3, _, rfl, rfl, k v1 v2 v3 r1 r2 r3⟩
theorem g_tup4 {β γ δ : Type} {τ1 : Ty α} {τ2 : Ty β} {τ3 : Ty γ} {τ4 : Ty δ} {d : α × β × γ × δ} {i1 i2 i3 i4 : Nat} {Q : L2.St → Hp → Prop} (r : (yTup (sCons τ1 (sCons τ2 (sCons τ3 (sOne τ4))))).rep K H [] v d)
    (k : ∀ u1 u2 u3 u4, τ1.rep K H [] u1 d.1 → τ2.rep K H [] u2 d.2.1 → τ3.rep K H [] u3 d.2.2.1 → τ4.rep K H [] u4 d.2.2.2 → Q ((((σ.set i1 (some u1)).set i2 (some u2)).set i3 (some u3)).set i4 (some u4)) H) : gTup K 4 (gCons (gName i1) (gCons (gName i2) (gCons (gName i3) (gCons (gName i4) gNil)))) v σ H Q := by
  obtain ⟨a, vs, rfl, s, v1, ws, F1, F2, rfl, e, r1, v2, ws2, F3, F4, rfl, e2, r2, v3, ws3, F5, F6, rfl, e3, r3, v4, rfl, r4⟩ := r
  obtain ⟨rfl, rfl⟩ : F1 = [] ∧ F2 = [] := List.append_eq_nil_iff.mp e.symm
  obtain ⟨rfl, rfl⟩ : F3 = [] ∧ F4 = [] := List.append_eq_nil_iff.mp e2.symm
  obtain ⟨rfl, rfl⟩ : F5 = [] ∧ F6 = [] := List.append_eq_nil_iff.mp e3.symm
  exact ⟨a, _, rfl, s, rfl, v1, _, rfl, v2, _, rfl, v3, _, rfl, v4, _, rfl, rfl, k v1 v2 v3 v4 r1 r2 r3 r4⟩
/-! ### range(lo, hi, -1) -/
theorem w_iRng3 {ts : TA} {R : It → Hp → Prop} (h : ts σ H fun vs H1 => ∃ (i j c : Int) (n : Nat), vs = [.int i, .int j, .int c] ∧ RgC i j c n ∧ R (Itc i c n) H1) : iRng3 ts σ H R := h
theorem l_rngD {g : TG} {tb : TS} {nx : L2.St → Hp → Prop} {lo hi : Int} {xs : List Int} (hg : Mi.rngDownO lo hi = some xs) (Pv : Nat → L2.St → Hp → Prop) (h0 : Pv 0 σ H)
    (hs : ∀ (i : Nat) (x : Int) σ' H', xs[i]? = some x → Pv i σ' H' → g (.int x) σ' H' fun σ2 H2 => tb { D with nx := Pv (i + 1), ct := Pv (i + 1), bk := nx } σ2 H2) (hd : ∀ σ' H', Pv xs.length σ' H' → nx σ' H') :
    ∃ (i j c : Int) (n : Nat), [V.int lo, V.int hi, V.int (-1)] = [.int i, .int j, .int c] ∧ RgC i j c n ∧ LoopG (Itc i c n) g tb D nx σ H := by
  unfold Mi.rngDownO at hg
  split at hg
  · rename_i hc
    obtain rfl := Option.some.inj hg
    have hl : (Mi.rngDown lo hi).length = (lo - hi).toNat := by unfold Mi.rngDown; rw [List.length_map, List.length_range]
    refine ⟨lo, hi, -1, (lo - hi).toNat, rfl, RgC.neg (by omega) (by omega) (by omega) (by omega), ?_⟩
    refine for_rangeC (D := { D with nx := nx }) (lo := lo) (c := -1) (n := (lo - hi).toNat) Pv h0 (fun i σ' H' hi' p => hs i _ σ' H' ?_ p) (fun σ' H' p => hd σ' H' (by rw [hl]; exact p))
    unfold Mi.rngDown
    rw [List.getElem?_map, List.getElem?_range hi']
    show some (lo - (i : Int)) = some (lo + (i : Int) * -1)
    congr 1
    omega
  · cases hg
end
end G
namespace G
open PySem PySem.Spec PyProof.Rows L2
/-- the def at one address is one def -/
theorem fn_law {P : Program} {w : World} {K : PySem.W.Frag} {mg : Str → Option Value} {x : Str} {k : Nat} {sp : Sp} {fa : Addr} (hfa : mg x = some (.ref fa)) {p : Str} (c : Cal P w K mg x [p] k sp) :
    ∃ fd : FuncData, (∀ (s : Shared) (v : Value), BindsTo s fd ⟨[v], []⟩ [(p, v)]) ∧ ∀ base : Heap, K.In base → base.Ns mainGlobals mg → FnOk P w K mg base CX0 k fa fd [p] sp := by
  obtain ⟨f, fd, g, _, b, ok⟩ := c.ex
  obtain rfl : fa = f := Value.ref.inj (Option.some.inj (hfa.symm.trans g))
  exact ⟨fd, fun s v => b s [v] rfl, fun base _ _ => ok base⟩
end G

namespace G
open PySem PySem.Spec PyProof.Rows L2
section
variable {K : PySem.W.Frag} {σ σ' : L2.St} {H : Hp} {F F1 F2 : List Addr} {ta tb te : TE} {v u x y w : V} {i j : Int} {t tu tt : TT} {b c a : Bool} {α β : Type} {τ : Ty α} {υ : Ty β} {Q : VK} {D : Ends} {t1 t2 : TS} {g : TG} {ws : List Nat}
/-! ### list comprehensions -/
/-- y goes to the list at D, then N -/
def AppG (D : Addr) (N : Hp → Prop) (y : V) (H : Hp) : Prop := ∃ acc, H D = some (.lst acc) ∧ acc.length < sizeLine ∧ N (upd H D (.lst (acc ++ [y])))
/-- one turn: the new list at D grows or not, then N -/
def TurnG (g : TG) (tt : TT) (te : TE) (ws : List Nat) (σ : L2.St) (D : Addr) (N : Hp → Prop) (x : V) (H : Hp) : Prop :=
  g x (wipe σ ws) H fun σ2 H2 => wipe σ2 ws = wipe σ ws ∧ tt σ2 H2 fun b H3 => if b = true then te σ2 H3 (AppG D N) else N H3
def CompG (J : It) (g : TG) (tt : TT) (te : TE) (ws : List Nat) (σ : L2.St) (H : Hp) (Q : VK) : Prop := ∀ D, H D = none → ∃ W : Nat → Nat → Hp → Prop, (∃ m, W 0 m (upd H D (.lst []))) ∧ ∀ i m H, W i m H →
  (J.stop i H ∧ Q (.ref D) H) ∨ (J.go i H ∧ ∃ N : Hp → Prop, (∀ H', N H' → ∃ m', m' < m ∧ W (i + 1) m' H') ∧ ∀ x H', J.yld i H x H' → TurnG g tt te ws σ D N x H')
theorem w_lc {wi : TI} (h : wi σ H fun J H1 => CompG J g tt te ws σ H1 Q) : tLc wi g tt te ws σ H Q := h
theorem w_yes {Q : Bool → Hp → Prop} (h : Q true H) : tYes σ H Q := h
theorem empty_lst {p : Addr} (np : H p = none) : (yLst τ).rep K (upd H p (.lst [])) [p] (.ref p) [] := ⟨p, [], rfl, rfl, upd_same, .nil⟩
theorem comp_by {J : It} (n : Nat) (Pv : Addr → Nat → Hp → Prop) (h0 : ∀ D H', H D = none → Chg [] H H' → (yLst τ).rep K H' [D] (.ref D) [] → Pv D 0 H')
    (hs : ∀ D i H', i < n → Pv D i H' → J.go i H' ∧ ∀ x H2, J.yld i H' x H2 → TurnG g tt te ws σ D (Pv D (i + 1)) x H2) (hd : ∀ D H', H D = none → Pv D n H' → J.stop n H' ∧ Q (.ref D) H') : CompG J g tt te ws σ H Q := by
  intro D hD
  refine ⟨fun i m H' => m = n - i ∧ i ≤ n ∧ Pv D i H', ⟨n, by omega, Nat.zero_le _, h0 D _ hD (Chg.new hD) (empty_lst hD)⟩, ?_⟩
  rintro i m H' ⟨rfl, hi, p⟩
  by_cases hlt : i < n
  · obtain ⟨h1, h2⟩ := hs D i H' hlt p
    exact .inr ⟨h1, Pv D (i + 1), fun H2 p' => ⟨n - (i + 1), by omega, rfl, hlt, p'⟩, h2⟩
  · obtain rfl : i = n := by omega
    exact .inl (hd D H' hD p)
theorem kc_lst {xs : List β} (r : (yLst υ).rep K H F v xs) (Pv : Addr → Nat → Hp → Prop) (h0 : ∀ D H', H D = none → Chg [] H H' → (yLst τ).rep K H' [D] (.ref D) [] → Pv D 0 H') (hl : ∀ D i H', Pv D i H' → (yLst υ).rep K H' F v xs)
    (hs : ∀ D (i : Nat) (x : β) (u : V) H', xs[i]? = some x → υ.rep K H' [] u x → Pv D i H' → TurnG g tt te ws σ D (Pv D (i + 1)) u H') (hd : ∀ D H', H D = none → Pv D xs.length H' → Q (.ref D) H') :
    ∃ a, v = .ref a ∧ (∃ xs, SqL K H a xs) ∧ CompG (Itl K a) g tt te ws σ H Q := by
  obtain ⟨a, vs, e, s, q⟩ := lst_sq r
  refine ⟨a, e, ⟨vs, s⟩, comp_by (K := K) (τ := τ) xs.length Pv h0 (fun D i H' hi p => ?_) (fun D H' hD p => ?_)⟩
  · obtain ⟨a', vs', e', s', q'⟩ := lst_sq (hl D i H' p)
    obtain rfl : a = a' := by rw [e] at e'; exact V.ref.inj e'
    obtain ⟨u, hu, ru⟩ := pr_get q' (List.getElem?_eq_getElem hi)
    refine ⟨⟨vs', u, s', hu⟩, fun x H2 y => ?_⟩
    obtain ⟨rfl, y⟩ := y
    obtain rfl : x = u := Option.some.inj ((y _ s').symm.trans hu)
    exact hs D i _ _ _ (List.getElem?_eq_getElem hi) ru p
  · obtain ⟨a', vs', e', s', q'⟩ := lst_sq (hl D _ H' p)
    obtain rfl : a = a' := by rw [e] at e'; exact V.ref.inj e'
    exact ⟨⟨vs', s', by rw [pr_len q']; exact Nat.le_refl _⟩, hd D H' hD p⟩
theorem kc_tup {xs : List β} (r : (yTupL υ).rep K H F v xs) (Pv : Addr → Nat → Hp → Prop) (h0 : ∀ D H', H D = none → Chg [] H H' → (yLst τ).rep K H' [D] (.ref D) [] → Pv D 0 H') (hl : ∀ D i H', Pv D i H' → (yTupL υ).rep K H' F v xs)
    (hs : ∀ D (i : Nat) (x : β) (u : V) H', xs[i]? = some x → υ.rep K H' [] u x → Pv D i H' → TurnG g tt te ws σ D (Pv D (i + 1)) u H') (hd : ∀ D H', H D = none → Pv D xs.length H' → Q (.ref D) H') :
    ∃ a, v = .ref a ∧ (∃ xs, SqT K H a xs) ∧ CompG (Itt K a) g tt te ws σ H Q := by
  obtain ⟨a, vs, e, s, q⟩ := tupl_sq r
  refine ⟨a, e, ⟨vs, s⟩, comp_by (K := K) (τ := τ) xs.length Pv h0 (fun D i H' hi p => ?_) (fun D H' hD p => ?_)⟩
  · obtain ⟨a', vs', e', s', q'⟩ := tupl_sq (hl D i H' p)
    obtain rfl : a = a' := by rw [e] at e'; exact V.ref.inj e'
    obtain ⟨u, hu, ru⟩ := pr_get q' (List.getElem?_eq_getElem hi)
    refine ⟨⟨vs', u, s', hu⟩, fun x H2 y => ?_⟩
    obtain ⟨rfl, y⟩ := y
    obtain rfl : x = u := Option.some.inj ((y _ s').symm.trans hu)
    exact hs D i _ _ _ (List.getElem?_eq_getElem hi) ru p
  · obtain ⟨a', vs', e', s', q'⟩ := tupl_sq (hl D _ H' p)
    obtain rfl : a = a' := by rw [e] at e'; exact V.ref.inj e'
    exact ⟨⟨vs', s', by rw [pr_len q']; exact Nat.le_refl _⟩, hd D H' hD p⟩
theorem kc_rng {lo hi : Int} (Pv : Addr → Nat → Hp → Prop) (h0 : ∀ D H', H D = none → Chg [] H H' → (yLst τ).rep K H' [D] (.ref D) [] → Pv D 0 H')
    (hs : ∀ D (i : Nat) (x : Int) H', (Mi.rng lo hi)[i]? = some x → Pv D i H' → TurnG g tt te ws σ D (Pv D (i + 1)) (.int x) H') (hd : ∀ D H', H D = none → Pv D (Mi.rng lo hi).length H' → Q (.ref D) H') :
    CompG (Itr lo (hi - lo).toNat) g tt te ws σ H Q := by
  refine comp_by (K := K) (τ := τ) (hi - lo).toNat Pv h0 (fun D i H' hi' p => ⟨hi', fun x H2 y => ?_⟩) (fun D H' hD p => ⟨Nat.le_refl _, hd D H' hD (by rw [rng_len]; exact p)⟩)
  obtain ⟨rfl, rfl⟩ := y
  exact hs D i _ _ (rng_at hi') p
theorem kc_rng1 {hi : Int} {xs : List Int} (hg : Mi.rngO 0 hi = some xs) (Pv : Addr → Nat → Hp → Prop) (h0 : ∀ D H', H D = none → Chg [] H H' → (yLst τ).rep K H' [D] (.ref D) [] → Pv D 0 H')
    (hs : ∀ D (i : Nat) (x : Int) H', xs[i]? = some x → Pv D i H' → TurnG g tt te ws σ D (Pv D (i + 1)) (.int x) H') (hd : ∀ D H', H D = none → Pv D xs.length H' → Q (.ref D) H') :
    ∃ j : Int, [V.int hi] = [.int j] ∧ -(2 ^ 62) ≤ j ∧ j < 2 ^ 62 ∧ CompG (Itr 0 j.toNat) g tt te ws σ H Q := by
  obtain ⟨rfl, _, h1, h2⟩ := rngO_some hg
  refine ⟨hi, rfl, by omega, by omega, ?_⟩
  have e : hi.toNat = (hi - 0).toNat := by rw [Int.sub_zero]
  rw [e]
  exact kc_rng (K := K) (τ := τ) Pv h0 hs hd
theorem kc_rng2 {lo hi : Int} {xs : List Int} (hg : Mi.rngO lo hi = some xs) (Pv : Addr → Nat → Hp → Prop) (h0 : ∀ D H', H D = none → Chg [] H H' → (yLst τ).rep K H' [D] (.ref D) [] → Pv D 0 H')
    (hs : ∀ D (i : Nat) (x : Int) H', xs[i]? = some x → Pv D i H' → TurnG g tt te ws σ D (Pv D (i + 1)) (.int x) H') (hd : ∀ D H', H D = none → Pv D xs.length H' → Q (.ref D) H') :
    ∃ i j : Int, [V.int lo, V.int hi] = [.int i, .int j] ∧ (-(2 ^ 62) ≤ i ∧ i < 2 ^ 62 ∧ -(2 ^ 62) ≤ j ∧ j < 2 ^ 62) ∧ CompG (Itr i (j - i).toNat) g tt te ws σ H Q := by
  obtain ⟨rfl, h1, h2⟩ := rngO_some hg
  exact ⟨lo, hi, rfl, by omega, kc_rng (K := K) (τ := τ) Pv h0 hs hd⟩
/-- the item is put to the new list -/
theorem e_app {D : Addr} {N : Hp → Prop} {xs ys : List α} {d : α} (r : (yLst τ).rep K H [D] (.ref D) xs) (ru : τ.rep K H [] u d) (hm : Mi.app xs d = some ys) (k : ∀ H', Chg [D] H H' → (yLst τ).rep K H' [D] (.ref D) ys → N H') :
    AppG D N u H := by
  obtain ⟨p, vs, e, f, g, q⟩ := r
  obtain rfl : D = p := V.ref.inj e
  unfold Mi.app at hm
  split at hm
  · rename_i hz
    cases hm
    have c : Chg [D] H (upd H D (.lst (vs ++ [u]))) := Chg.wr g (fun z => z)
    exact ⟨vs, g, Nat.lt_of_lt_of_le (by rw [pr_len q]; exact hz) line_big, k _ c ⟨D, _, rfl, rfl, upd_same, pr_app (Paired.mapP q fun _ _ z => Ty.fz z c) (.cons (Ty.fz ru c) .nil)⟩⟩
  · cases hm
/-! ### + of lists, slices, list(..), tuple(..) -/
theorem w_cat {xs ys zs : List α} (r : (yLst τ).rep K H F1 v xs) (q : (yLst τ).rep K H F2 u ys) (hm : Mi.cat xs ys = some zs) (k : ∀ p H', H p = none → Chg [] H H' → (yLst τ).rep K H' [p] (.ref p) zs → Q (.ref p) H') : rCat v u H Q := by
  obtain ⟨p, vs, rfl, rfl, g, r1⟩ := r
  obtain ⟨p2, us, rfl, rfl, g2, r2⟩ := q
  unfold Mi.cat at hm
  split at hm
  · rename_i hz
    cases hm
    refine ⟨p, p2, vs, us, rfl, rfl, g, g2, sz (by rw [pr_len r1, pr_len r2]; exact hz), fun n nn => k n _ nn (Chg.new nn) ⟨n, _, rfl, rfl, upd_same, ?_⟩⟩
    exact Paired.mapP (pr_app r1 r2) fun _ _ z => Ty.ex z (Chg.new nn)
  · cases hm
theorem w_sl {r : V → Option Int → Option Int → Hp → VK → Prop} {tl th : TO} (h : te σ H fun x H1 => tl σ H1 fun l H2 => th σ H2 fun u H3 => r x l u H3 Q) : tSl r te tl th σ H Q := h
theorem w_pon {Q : Option Int → Hp → Prop} (h : Q none H) : tNoPart σ H Q := h
theorem w_pos {Q : Option Int → Hp → Prop} (h : te σ H fun x H1 => ∃ i, x = .int i ∧ Q (some i) H1) : tPart te σ H Q := h
theorem sl_l {X : Cx} {K : PySem.W.Frag} (e : X.K = K := by rfl) : SlR X (rSlL K) := by subst e; exact sl_list
theorem cut_eq {α : Type} (xs : List α) (lo hi : Option Int) : (xs.drop (HT.sIx xs.length 0 lo)).take (HT.sIx xs.length xs.length hi - HT.sIx xs.length 0 lo) = Mi.cut xs lo hi := by
  have e : ∀ n d o, HT.sIx n d o = Mi.sIx n d o := fun n d o => by cases o <;> rfl
  unfold Mi.cut
  rw [e, e]
theorem pr_cut {R : V → α → Prop} {vs : List V} {xs : List α} (r : Paired R vs xs) (lo hi : Option Int) : Paired R (cutV vs lo hi) (Mi.cut xs lo hi) := by
  rw [← cut_eq]
  unfold cutV
  rw [pr_len r]
  exact pr_take _ (pr_drop _ r)
theorem w_cutL {xs : List α} {lo hi : Option Int} (r : (yLst τ).rep K H F v xs) (k : ∀ p H', H p = none → Chg [] H H' → (yLst τ).rep K H' [p] (.ref p) (Mi.cut xs lo hi) → Q (.ref p) H') : rSlL K v lo hi H Q := by
  obtain ⟨p, vs, rfl, s, q⟩ := lst_sq r
  refine ⟨p, vs, rfl, s, fun n nn => k n _ nn (Chg.new nn) ⟨n, _, rfl, rfl, upd_same, ?_⟩⟩
  exact Paired.mapP (pr_cut q lo hi) fun _ _ z => Ty.ex z (Chg.new nn)
def rListQ (K : PySem.W.Frag) : List V → Hp → VK → Prop := fun xs H Q => ∃ p ys, xs = [.ref p] ∧ (SqL K H p ys ∨ SqT K H p ys) ∧ ∀ l, H l = none → Q (.ref l) (upd H l (.lst ys))
def rTupleQ (K : PySem.W.Frag) : List V → Hp → VK → Prop := fun xs H Q => ∃ p ys, xs = [.ref p] ∧ ((SqL K H p ys ∧ ∀ l, H l = none → Q (.ref l) (upd H l (.tup ys))) ∨ (SqT K H p ys ∧ Q (.ref p) H))
theorem cl_list {X : Cx} {K : PySem.W.Frag} (e : X.K = K := by rfl) : CallR X (.type "list") (rListQ K) := by subst e; exact call_list_of
theorem cl_tuple {X : Cx} {K : PySem.W.Frag} (e : X.K = K := by rfl) : CallR X (.type "tuple") (rTupleQ K) := by subst e; exact call_tuple_of
theorem w_listL {xs : List α} (r : (yLst τ).rep K H F v xs) (k : ∀ p H', H p = none → Chg [] H H' → (yLst τ).rep K H' [p] (.ref p) xs → Q (.ref p) H') : rListQ K [v] H Q := by
  obtain ⟨p, vs, rfl, s, q⟩ := lst_sq r
  exact ⟨p, vs, rfl, .inl s, fun n nn => k n _ nn (Chg.new nn) ⟨n, _, rfl, rfl, upd_same, Paired.mapP q fun _ _ z => Ty.ex z (Chg.new nn)⟩⟩
theorem w_listT {xs : List α} (r : (yTupL τ).rep K H F v xs) (k : ∀ p H', H p = none → Chg [] H H' → (yLst τ).rep K H' [p] (.ref p) xs → Q (.ref p) H') : rListQ K [v] H Q := by
  obtain ⟨p, vs, rfl, s, q⟩ := tupl_sq r
  exact ⟨p, vs, rfl, .inr s, fun n nn => k n _ nn (Chg.new nn) ⟨n, _, rfl, rfl, upd_same, Paired.mapP q fun _ _ z => Ty.ex z (Chg.new nn)⟩⟩
theorem w_tupleL {xs : List α} (r : (yLst τ).rep K H F v xs) (k : ∀ v H', Chg [] H H' → (yTupL τ).rep K H' [] v xs → Q v H') : rTupleQ K [v] H Q := by
  obtain ⟨p, vs, rfl, s, q⟩ := lst_sq r
  exact ⟨p, vs, rfl, .inl ⟨s, fun n nn => k _ _ (Chg.new nn) ⟨n, _, rfl, rfl, .inl (.inl upd_same), Paired.mapP q fun _ _ z => Ty.ex z (Chg.new nn)⟩⟩⟩
theorem w_tupleT {xs : List α} (r : (yTupL τ).rep K H F v xs) (k : ∀ v H', Chg [] H H' → (yTupL τ).rep K H' [] v xs → Q v H') : rTupleQ K [v] H Q := by
  obtain ⟨p, vs, rfl, s, q⟩ := tupl_sq r
  exact ⟨p, vs, rfl, .inr ⟨s, k _ _ (Chg.refl H) ⟨p, vs, rfl, rfl, s, q⟩⟩⟩
/-! ### in -/
theorem op_in_q {X : Cx} {K : PySem.W.Frag} (e : X.K = K := by rfl) : OpR X (compareOp .In) (rIn K false) := by subst e; exact op_in_seq
theorem op_ni_q {X : Cx} {K : PySem.W.Frag} (e : X.K = K := by rfl) : OpR X (compareOp .NotIn) (rIn K true) := by subst e; exact op_notIn_seq
theorem flat_ints (ns : List Int) : (ns.map V.int).all flatV = true := by
  rw [List.all_eq_true]
  intro x hx
  obtain ⟨n, _, rfl⟩ := List.mem_map.mp hx
  rfl
theorem in_ints (n : Int) : ∀ ns : List Int, inV (.int n) (ns.map V.int) = ns.contains n
  | [] => rfl
  | m :: ns => by
    have ih := in_ints n ns
    unfold inV at ih ⊢
    rw [List.map_cons, List.any_cons, List.contains_cons, ih]
    congr 1
    show (m == n) = (n == m)
    by_cases h : m = n
    · subst h; rfl
    · rw [beq_eq_false_iff_ne.mpr h, beq_eq_false_iff_ne.mpr (Ne.symm h)]
theorem ints_sqL {xs : List Int} (r : (yLst yInt).rep K H F v xs) : ∃ a, v = .ref a ∧ SqL K H a (xs.map V.int) := by
  obtain ⟨a, vs, e, s, q⟩ := lst_sq r
  rw [ints_of q] at s
  exact ⟨a, e, s⟩
theorem ints_sqT {xs : List Int} (r : (yTupL yInt).rep K H F v xs) : ∃ a, v = .ref a ∧ SqT K H a (xs.map V.int) := by
  obtain ⟨a, vs, e, s, q⟩ := tupl_sq r
  rw [ints_of q] at s
  exact ⟨a, e, s⟩
theorem w_inL {xs : List Int} (r : (yLst yInt).rep K H F v xs) (k : Q (.bl (xs.contains i)) H) : rIn K false (.int i) v H Q := by
  obtain ⟨a, rfl, s⟩ := ints_sqL r
  exact ⟨a, _, rfl, .inl s, rfl, flat_ints xs, by rw [if_neg Bool.false_ne_true, in_ints]; exact k⟩
theorem w_niL {xs : List Int} (r : (yLst yInt).rep K H F v xs) (k : Q (.bl (!xs.contains i)) H) : rIn K true (.int i) v H Q := by
  obtain ⟨a, rfl, s⟩ := ints_sqL r
  exact ⟨a, _, rfl, .inl s, rfl, flat_ints xs, by rw [if_pos rfl, in_ints]; exact k⟩
theorem w_inT {xs : List Int} (r : (yTupL yInt).rep K H F v xs) (k : Q (.bl (xs.contains i)) H) : rIn K false (.int i) v H Q := by
  obtain ⟨a, rfl, s⟩ := ints_sqT r
  exact ⟨a, _, rfl, .inr s, rfl, flat_ints xs, by rw [if_neg Bool.false_ne_true, in_ints]; exact k⟩
theorem w_niT {xs : List Int} (r : (yTupL yInt).rep K H F v xs) (k : Q (.bl (!xs.contains i)) H) : rIn K true (.int i) v H Q := by
  obtain ⟨a, rfl, s⟩ := ints_sqT r
  exact ⟨a, _, rfl, .inr s, rfl, flat_ints xs, by rw [if_pos rfl, in_ints]; exact k⟩
theorem val_inL {xs : List Int} (r : (yLst yInt).rep K H F v xs) (ha : Val ta σ H (.int i)) (hb : Val tb σ H v) : Val (tOp (rIn K false) ta tb) σ H (.bl (xs.contains i)) := val_op ha hb fun Q q => w_inL r q
theorem val_niL {xs : List Int} (r : (yLst yInt).rep K H F v xs) (ha : Val ta σ H (.int i)) (hb : Val tb σ H v) : Val (tOp (rIn K true) ta tb) σ H (.bl (!xs.contains i)) := val_op ha hb fun Q q => w_niL r q
theorem val_inT {xs : List Int} (r : (yTupL yInt).rep K H F v xs) (ha : Val ta σ H (.int i)) (hb : Val tb σ H v) : Val (tOp (rIn K false) ta tb) σ H (.bl (xs.contains i)) := val_op ha hb fun Q q => w_inT r q
theorem val_niT {xs : List Int} (r : (yTupL yInt).rep K H F v xs) (ha : Val ta σ H (.int i)) (hb : Val tb σ H v) : Val (tOp (rIn K true) ta tb) σ H (.bl (!xs.contains i)) := val_op ha hb fun Q q => w_niT r q
end
end G

namespace G
open PySem PySem.Spec PyProof.Rows L2
/-! ### instances -/
theorem lookup_zip {f : Str} : ∀ {ns : List Str} {vs : List V} {n : Nat} {u : V}, ns.Nodup → ns[n]? = some f → vs[n]? = some u → (ns.zip vs).lookup f = some u
  | [], _, _, _, _, h, _ => by simp at h
  | _ :: _, [], _, _, _, _, h => by simp at h
  | m :: ns, w :: vs, 0, u, nd, h, h2 => by
    obtain rfl : m = f := by simpa using h
    obtain rfl : w = u := by simpa using h2
    simp [List.lookup]
  | m :: ns, w :: vs, n + 1, u, nd, h, h2 => by
    have hne : (f == m) = false := by
      rw [beq_eq_false_iff_ne]
      intro e
      subst e
      have h3 : ns[n]? = some f := by simpa using h
      exact (List.nodup_cons.mp nd).1 (List.mem_of_getElem? h3)
    rw [List.zip_cons_cons]
    simp only [List.lookup, hne]
    exact lookup_zip (List.nodup_cons.mp nd).2 (by simpa using h) (by simpa using h2)
def yObj {α : Type} (C : Addr) (ns : List Str) (ts : Tys α) : Ty α where
  rep K H F v d := F = [] ∧ ∃ a dx vs, v = .ref a ∧ H a = some (.ins C dx (ns.zip vs)) ∧ done (ns.zip vs) = true ∧ ts.rep K H [] vs d
  keep {K H H' F v d} h k := by
    obtain ⟨e, a, dx, vs, e2, g, f, r⟩ := h
    exact ⟨e, a, dx, vs, e2, k a _ g (.inr f), f, ts.keep r fun b o hb z => k b o hb (z.elim (fun y => nomatch y) .inr)⟩
  dom {K H F v d} h b m := by rw [h.1] at m; cases m
/-- an instance that its __init__ has begun: the attributes ns hold the values ws -/
def yPart (C dx : Addr) (ns : List Str) : Ty (List V) where
  rep K H F v ws := ∃ x, v = .ref x ∧ F = [x] ∧ H x = some (.ins C dx (ns.zip ws)) ∧ done (ns.zip ws) = false
  keep {K H H' F v ws} h k := by
    obtain ⟨x, e, rfl, g, f⟩ := h
    exact ⟨x, e, rfl, k x _ g (.inl (List.mem_singleton.mpr rfl)), f⟩
  dom {K H F v ws} h b m := by
    obtain ⟨x, e, rfl, g, f⟩ := h
    rw [List.mem_singleton] at m; subst m
    exact ⟨_, g, fun z => by have z' : done _ = true := z; rw [f] at z'; cases z'⟩
section
variable {K : PySem.W.Frag} {σ σ' : L2.St} {H : Hp} {F : List Addr} {ta tb te tv : TE} {v u x y w : V} {α β : Type} {τ : Ty α} {Q : VK} {D : Ends} {t1 t2 : TS} {C dx p : Addr} {ns : List Str} {f : Str}
theorem fz_obj {ts : Tys α} : Fz (yObj C ns ts) := fun h => h.1
theorem nn_obj {ts : Tys α} {d : α} (r : (yObj C ns ts).rep K H F v d) : v ≠ .non := by obtain ⟨_, a, _, _, rfl, _⟩ := r; exact fun z => nomatch z
/-- o.f: what is asked of the value o -/
def FldG (K : PySem.W.Frag) (f : Str) (x : V) (H : Hp) (Q : VK) : Prop := ∃ a C dx fs v, x = .ref a ∧ H a = some (.ins C dx fs) ∧ Cls K C ∧ NoAttr K C f ∧ fs.lookup f = some v ∧ Q v H
theorem w_fld (h : ta σ H fun x H1 => FldG K f x H1 Q) : tFld K ta f σ H Q := h
theorem fld_obj {ts : Tys α} {n : Nat} {υ : Ty β} {pr : α → β} {d : α} (A : At ts n υ pr) (nd : ns.Nodup) (hn : ns[n]? = some f) (c : Cls K C) (na : NoAttr K C f) (r : (yObj C ns ts).rep K H F v d) :
    ∃ u, υ.rep K H [] u (pr d) ∧ (∀ {Q : VK}, Q u H → FldG K f v H Q) ∧ ∀ {σ : L2.St} {ta : TE}, Val ta σ H v → Val (tFld K ta f) σ H u := by
  obtain ⟨_, a, dx, vs, rfl, g, _, rs⟩ := r
  obtain ⟨u, F1, e, ru, sub⟩ := A rs
  have e1 : F1 = [] := by
    cases F1 with
    | nil => rfl
    | cons z zs => exact nomatch sub z (List.mem_cons_self ..)
  subst e1
  have k : ∀ {Q : VK}, Q u H → FldG K f (.ref a) H Q := fun q => ⟨a, C, dx, _, u, rfl, g, c, na, lookup_zip nd hn e, q⟩
  exact ⟨u, ru, k, fun ha Q q => ha _ (k q)⟩
theorem fld_part {ws : List V} {n : Nat} (nd : ns.Nodup) (hn : ns[n]? = some f) (hw : ws[n]? = some u) (c : Cls K C) (na : NoAttr K C f) (r : (yPart C dx ns).rep K H F v ws) (ha : Val ta σ H v) : Val (tFld K ta f) σ H u := by
  obtain ⟨a, rfl, _, g, _⟩ := r
  exact fun Q q => ha _ ⟨a, C, dx, _, u, rfl, g, c, na, lookup_zip nd hn hw, q⟩
/-- self.f = e -/
def SFldG (K : PySem.W.Frag) (f : Str) (y x : V) (H : Hp) (X : Hp → Prop) : Prop := ∃ a C dx fs, x = .ref a ∧ H a = some (.ins C dx fs) ∧ Cls K C ∧ NoAttr K C f ∧ fs.length < 1000 ∧ X (upd H a (.ins C dx (putF f y fs)))
theorem q_fld (h : tv σ H fun y H1 => ta σ H1 fun x H2 => SFldG K f y x H2 (t2 D σ)) : tSeq (sFld K ta tv f) t2 D σ H := h
theorem putF_zip {f : Str} {y : V} : ∀ {ns : List Str} {ws : List V}, f ∉ ns → ns.length = ws.length → putF f y (ns.zip ws) = (ns ++ [f]).zip (ws ++ [y])
  | [], [], _, _ => rfl
  | [], _ :: _, _, h => by simp at h
  | _ :: _, [], _, h => by simp at h
  | m :: ns, w :: ws, hf, h => by
    have hne : f ≠ m := fun e => hf (by rw [e]; exact List.mem_cons_self ..)
    have ih := putF_zip (f := f) (y := y) (ns := ns) (ws := ws) (fun z => hf (List.mem_cons_of_mem _ z)) (by simpa using h)
    rw [List.zip_cons_cons]
    show putF f y ((m, w) :: ns.zip ws) = _
    unfold putF
    split
    · rename_i e
      exact absurd (by simpa using e) (by first | exact hne | exact (Ne.symm hne))
    · rw [ih]; rfl
theorem m_fldP {ws : List V} {X : Hp → Prop} (r : (yPart C dx ns).rep K H F v ws) (c : Cls K C) (na : NoAttr K C f) (hf : f ∉ ns) (hl : ns.length = ws.length) (hs : ns.length < 900) (hd : done ((ns ++ [f]).zip (ws ++ [y])) = false)
    (k : ∀ H', Chg F H H' → (yPart C dx (ns ++ [f])).rep K H' F v (ws ++ [y]) → X H') : SFldG K f y v H X := by
  obtain ⟨a, rfl, rfl, g, nf⟩ := r
  have cc : Chg [a] H (upd H a (.ins C dx (putF f y (ns.zip ws)))) := Chg.wr g (fun z => by have z' : done _ = true := z; rw [nf] at z'; cases z')
  refine ⟨a, C, dx, _, rfl, g, c, na, by rw [List.length_zip, ← hl]; omega, k _ cc ⟨a, rfl, rfl, ?_, hd⟩⟩
  rw [upd_same, putF_zip hf hl]
theorem m_fldE {ws : List V} {X : Hp → Prop} {ts : Tys α} {d : α} (r : (yPart C dx ns).rep K H F v ws) (c : Cls K C) (na : NoAttr K C f) (hf : f ∉ ns) (hl : ns.length = ws.length) (hs : ns.length < 900) (hd : done ((ns ++ [f]).zip (ws ++ [y])) = true)
    (rs : ts.rep K H [] (ws ++ [y]) d) (k : ∀ H', Chg F H H' → (yObj C (ns ++ [f]) ts).rep K H' [] v d → X H') : SFldG K f y v H X := by
  obtain ⟨a, rfl, rfl, g, nf⟩ := r
  have cc : Chg [a] H (upd H a (.ins C dx (putF f y (ns.zip ws)))) := Chg.wr g (fun z => by have z' : done _ = true := z; rw [nf] at z'; cases z')
  refine ⟨a, C, dx, _, rfl, g, c, na, by rw [List.length_zip, ← hl]; omega, k _ cc ⟨rfl, a, dx, _, rfl, ?_, hd, ts.keep rs fun b o hb z => cc.keep b o hb (z.elim (fun y => nomatch y) .inr)⟩⟩
  rw [upd_same, putF_zip hf hl]
/-- C(..): the new instance -/
def MakeG (C : Addr) (sp : Sp) (E : XK) (vs : V → List V) (H : Hp) (Q : VK) : Prop := ∀ x dx, H x = none → H dx = none → dx ≠ x → sp (vs (.ref x)) (upd (upd H dx (.own x)) x (.ins C dx [])) (fun v H3 => v = .non ∧ Q (.ref x) H3) E
theorem make_new {x : Addr} (nx : H x = none) (nd : H dx = none) (ne : dx ≠ x) : Chg [] H (upd (upd H dx (.own x)) x (.ins C dx [])) ∧ (yPart C dx []).rep K (upd (upd H dx (.own x)) x (.ins C dx [])) [x] (.ref x) [] :=
  ⟨(Chg.new nd).trans (Chg.new (by rw [upd_ne (Ne.symm ne)]; exact nx)), x, rfl, rfl, upd_same, rfl⟩
theorem tInt_tup {d : Int} : True := trivial
end
end G
namespace G
open PySem PySem.Spec PyProof.Rows L2
/-- what the top leaves of a class -/
structure Tx (K : PySem.W.Frag) (mg : Str → Option Value) (C : Addr) (x : Str) (ns : List Str) : Prop where
  cls : Cls K C
  mgC : mg x = some (.ref C)
  na : ∀ f ∈ ns, NoAttr K C f
structure CalM (P : Program) (w : World) (K : PySem.W.Frag) (mg : Str → Option Value) (C : Addr) (m : Str) (ps : List Str) (k : Nat) (sp : Sp) : Prop where
  ex : ∃ f fd, Meth K C m f ∧ (∀ (s : Shared) (us : List Value), us.length = ps.length → BindsTo s fd ⟨us, []⟩ (ps.zip us)) ∧ ∀ base : Heap, FnOk P w K mg base CX0 k f fd ps sp
structure CalI (P : Program) (w : World) (K : PySem.W.Frag) (mg : Str → Option Value) (C : Addr) (qual : Str) (st : Stmt) (kws : List (Str × V)) (ps : List Str) (k : Nat) (sp : Sp) : Prop where
  ex : ∃ f fd, Mk K C f ∧ FunD K "__init__" qual (defArgs st) (defBody st) (defScope st) [] kws f fd ∧ ∀ base : Heap, FnOk P w K mg base CX0 k f fd ps sp
structure DfnM (K : PySem.W.Frag) (C : Addr) (m qual : Str) (st : Stmt) : Prop where
  ex : ∃ f fd, Fun K m qual st f fd ∧ Meth K C m f
structure DfnI (K : PySem.W.Frag) (C : Addr) (qual : Str) (st : Stmt) (kws : List (Str × V)) : Prop where
  ex : ∃ f fd, FunD K "__init__" qual (defArgs st) (defBody st) (defScope st) [] kws f fd ∧ Mk K C f
section
variable {X : Cx} {K : PySem.W.Frag} {σ : L2.St} {H : Hp} {F : List Addr} {ta te : TE} {v : V} {α : Type} {Q : VK} {C : Addr} {ns : List Str} {m : Str}
def MethG (C : Addr) (m : Str) (x : V) (H : Hp) (R : Prop) : Prop := ∃ a dx fs, x = .ref a ∧ H a = some (.ins C dx fs) ∧ fs.lookup m = none ∧ R
theorem w_meth {sp : Sp} {E : XK} {ts : TA} (h : ta σ H fun x H1 => MethG C m x H1 (ts σ H1 fun vs H2 => sp (x :: (vs ++ [])) H2 Q E)) : tMeth C m sp [] E ta ts σ H Q := h
theorem lookup_none {f : Str} : ∀ {ns : List Str} {vs : List V}, f ∉ ns → (ns.zip vs).lookup f = none
  | [], _, _ => rfl
  | _ :: _, [], _ => rfl
  | m :: ns, w :: vs, h => by
    have hne : (f == m) = false := by
      rw [beq_eq_false_iff_ne]
      exact fun e => h (by rw [e]; exact List.mem_cons_self ..)
    rw [List.zip_cons_cons]
    simp only [List.lookup, hne]
    exact lookup_none fun z => h (List.mem_cons_of_mem _ z)
theorem meth_obj {ts : Tys α} {d : α} {R : Prop} (r : (yObj C ns ts).rep K H F v d) (hm : m ∉ ns) (k : R) : MethG C m v H R := by
  obtain ⟨_, a, dx, vs, rfl, g, _, _⟩ := r
  exact ⟨a, dx, _, rfl, g, lookup_none hm, k⟩
theorem w_makeK {n k : Nat} {sp : Sp} {gV : List V → List V → List V} {E : XK} {t tk : TA} (h : t σ H fun vs H1 => tk σ H1 fun zs H2 => vs.length = n ∧ zs.length = k ∧ MakeG C sp E (fun x => gV (x :: vs) zs) H2 Q) : tMakeK C n k sp gV E t tk σ H Q := h
theorem w_mk {sp : Sp} {E : XK} {t : TA} {dvs : List V} (h : t σ H fun vs H1 => MakeG C sp E (fun x => x :: (vs ++ dvs)) H1 Q) : tMake C sp dvs E t σ H Q := h
theorem pe_cm {ps : List Str} {j k : Nat} {sp : Sp} {pl : Sem Bool} {apos pos : Pos} {o e : Expr} {es : List Expr} {t : TA} (he : PE X o ta) (c : Cls X.K C) (M : CalM X.prog X.w X.K X.mg C m ps j sp) (hr : Room k X.A) (ha : PA X (e :: es) t) (hj : j ≤ k := by decide)
    (h1 : ∀ {f : Addr} {fd : FuncData}, FnOk X.prog X.w X.K X.mg X.base CX0 j f fd ps sp → Meth X.K C m f → Binds X.K fd ps [] → Room j X.A → PE X (.Call (.Attribute o m apos) (e :: es) [] pos) (tMeth C m sp [] E0 ta t)) : PE X (.Call (.Attribute o m apos) (e :: es) [] pos) (tMeth C m sp [] E0 ta t) := by
  obtain ⟨f, fd, hm, b, F⟩ := M.ex
  exact h1 (F X.base) hm (fun s us _ hl => by rw [List.append_nil] at hl ⊢; exact b s us hl) (hr.mono hj)
end
end G

namespace G
open PySem PySem.Spec PyProof.Rows L2
section
variable {K : PySem.W.Frag} {σ σ' : L2.St} {H : Hp} {F F1 F2 Fu : List Addr} {ta tb te : TE} {v u x y : V} {i j : Int} {t tu tt : TT} {b c a : Bool} {α β : Type} {τ : Ty α} {υ : Ty β} {Q : VK} {D : Ends} {t1 t2 : TS} {g : TG} {ws : List Nat}
/-! ### shifts -/
theorem shlC {i j r : Int} (h : Mi.shl i j = some r) : CPow i j ∧ i * 2 ^ j.toNat = r := by
  unfold Mi.shl at h
  split at h
  · rename_i hc
    exact ⟨⟨hc.1, by omega, by omega⟩, Option.some.inj h⟩
  · cases h
theorem shrC {i j r : Int} (h : Mi.shr i j = some r) : 0 ≤ j ∧ i / 2 ^ j.toNat = r := by
  unfold Mi.shr at h
  split at h
  · exact ⟨by assumption, Option.some.inj h⟩
  · cases h
theorem val_shlO {r : Int} (ha : Val ta σ H (.int i)) (hb : Val tb σ H (.int j)) (h : Mi.shl i j = some r) : Val (tOp (rI CPow fun i j => .int (i * 2 ^ j.toNat)) ta tb) σ H (.int r) := val_is (val_I (g := fun i j => .int (i * 2 ^ j.toNat)) ha hb (shlC h).1) (by rw [← (shlC h).2])
theorem val_shrO {r : Int} (ha : Val ta σ H (.int i)) (hb : Val tb σ H (.int j)) (h : Mi.shr i j = some r) : Val (tOp (rI (fun _ j => 0 ≤ j) fun i j => .int (i / 2 ^ j.toNat)) ta tb) σ H (.int r) := val_is (val_I (g := fun i j => .int (i / 2 ^ j.toNat)) ha hb (shrC h).1) (by rw [← (shrC h).2])
theorem w_shl {r : Int} (h : Mi.shl i j = some r) (k : Q (.int r) H) : rI CPow (fun i j => .int (i * 2 ^ j.toNat)) (.int i) (.int j) H Q := ⟨i, j, rfl, rfl, (shlC h).1, by show Q (.int (i * 2 ^ j.toNat)) H; rw [(shlC h).2]; exact k⟩
theorem w_shr {r : Int} (h : Mi.shr i j = some r) (k : Q (.int r) H) : rI (fun _ j => 0 ≤ j) (fun i j => .int (i / 2 ^ j.toNat)) (.int i) (.int j) H Q := ⟨i, j, rfl, rfl, (shrC h).1, by show Q (.int (i / 2 ^ j.toNat)) H; rw [(shrC h).2]; exact k⟩
/-! ### sorted -/
theorem cl_sortedL {X : Cx} {K : PySem.W.Frag} (e : X.K = K := by rfl) : CallR X (.builtin "sorted") (rSortedI K) := by subst e; exact cr_sortedI
theorem sortI_perm (xs : List Int) : (Mi.sortI xs).Perm xs := List.mergeSort_perm _ _
theorem sortI_sorted (xs : List Int) : (Mi.sortI xs).Pairwise (· ≤ ·) := by
  have h := List.pairwise_mergeSort (le := fun a b : Int => decide (a ≤ b)) (fun a b c h1 h2 => by simp at *; omega) (fun a b => by simp; omega) xs
  exact List.Pairwise.imp (fun h => by simpa using h) h
theorem sorted_unique : ∀ {xs ys : List Int}, xs.Perm ys → xs.Pairwise (· ≤ ·) → ys.Pairwise (· ≤ ·) → xs = ys
  | [], ys, p, _, _ => (List.Perm.nil_eq p)
  | x :: xs, [], p, _, _ => absurd p.length_eq (by simp)
  | x :: xs, y :: ys, p, h1, h2 => by
    have hx := List.pairwise_cons.mp h1
    have hy := List.pairwise_cons.mp h2
    have e : x = y := by
      have a1 : y ∈ x :: xs := p.mem_iff.mpr (List.mem_cons_self ..)
      have a2 : x ∈ y :: ys := p.mem_iff.mp (List.mem_cons_self ..)
      rcases List.mem_cons.mp a1 with r | r
      · exact r.symm
      · rcases List.mem_cons.mp a2 with q | q
        · exact q
        · have := hx.1 y r
          have := hy.1 x q
          omega
    subst e
    rw [sorted_unique (List.Perm.cons_inv p) hx.2 hy.2]
theorem w_sortedL {xs : List Int} (r : (yLst yInt).rep K H F v xs) (k : ∀ p H', H p = none → Chg [] H H' → (yLst yInt).rep K H' [p] (.ref p) (Mi.sortI xs) → Q (.ref p) H') : rSortedI K [v] H Q := by
  obtain ⟨p, rfl, s⟩ := ints_sqL r
  refine ⟨p, xs, rfl, s, fun ns q pm so nq => ?_⟩
  rw [sorted_unique (pm.trans (sortI_perm xs).symm) so (sortI_sorted xs)]
  exact k q _ nq (Chg.new nq) ⟨q, _, rfl, rfl, upd_same, ints_mk _⟩
/-! ### sets of ints -/
def ySet (w : World) : Ty (List Int) where
  rep K H F v xs := ∃ a, v = .ref a ∧ F = [a] ∧ H a = some (SetO w a (fun i => xs.contains i) xs.length)
  keep {K H H' F v xs} h k := by
    obtain ⟨a, e, rfl, g⟩ := h
    exact ⟨a, e, rfl, k a _ g (.inl (List.mem_singleton.mpr rfl))⟩
  dom {K H F v xs} h b m := by
    obtain ⟨a, e, rfl, g⟩ := h
    rw [List.mem_singleton] at m; subst m
    exact ⟨_, g, fun z => z⟩
theorem cl_set0 {X : Cx} {w : World} (e : X.w = w := by rfl) : CallR X (.type "set") (rSet0 w) := by subst e; exact cr_set0
theorem w_set0 {w : World} (k : ∀ p H', H p = none → Chg [] H H' → (ySet w).rep K H' [p] (.ref p) [] → Q (.ref p) H') : rSet0 w [] H Q := ⟨rfl, fun p np => k p _ np (Chg.new np) ⟨p, rfl, rfl, upd_same⟩⟩
theorem op_in_s {X : Cx} {w : World} (e : X.w = w := by rfl) : OpR X (compareOp .In) (rSIn w) := by subst e; exact or_sin
theorem op_ni_s {X : Cx} {w : World} (e : X.w = w := by rfl) : OpR X (compareOp .NotIn) (rSNotIn w) := by subst e; exact or_snotin
theorem w_inS {w : World} {xs : List Int} (r : (ySet w).rep K H F v xs) (k : Q (.bl (xs.contains i)) H) : rSIn w (.int i) v H Q := by
  obtain ⟨p, rfl, rfl, g⟩ := r
  exact ⟨i, p, _, _, rfl, rfl, g, k⟩
theorem w_niS {w : World} {xs : List Int} (r : (ySet w).rep K H F v xs) (k : Q (.bl (!xs.contains i)) H) : rSNotIn w (.int i) v H Q := by
  obtain ⟨p, rfl, rfl, g⟩ := r
  exact ⟨i, p, _, _, rfl, rfl, g, k⟩
theorem val_inS {w : World} {xs : List Int} (r : (ySet w).rep K H F v xs) (ha : Val ta σ H (.int i)) (hb : Val tb σ H v) : Val (tOp (rSIn w) ta tb) σ H (.bl (xs.contains i)) := val_op ha hb fun Q q => w_inS r q
theorem val_niS {w : World} {xs : List Int} (r : (ySet w).rep K H F v xs) (ha : Val ta σ H (.int i)) (hb : Val tb σ H v) : Val (tOp (rSNotIn w) ta tb) σ H (.bl (!xs.contains i)) := val_op ha hb fun Q q => w_niS r q
theorem w_sadd {w : World} {to : TE} {ts : TA} (h : to σ H fun x H1 => (∃ a S n, x = V.ref a ∧ H1 a = some (SetO w a S n)) ∧ ts σ H1 fun xs H2 => rSAdd w x xs H2 Q) : tSAdd w to ts σ H Q := h
theorem tyv_set {w : World} {xs : List Int} (r : (ySet w).rep K H F v xs) : ∃ a S n, v = V.ref a ∧ H a = some (SetO w a S n) := by
  obtain ⟨p, rfl, rfl, g⟩ := r
  exact ⟨p, _, _, rfl, g⟩
theorem m_sadd {w : World} {xs ys : List Int} (r : (ySet w).rep K H F v xs) (hm : Mi.sadd xs i = some ys) (k : ∀ H', Chg F H H' → (ySet w).rep K H' F v ys → Q .non H') : rSAdd w v [.int i] H Q := by
  obtain ⟨p, rfl, rfl, g⟩ := r
  unfold Mi.sadd at hm
  split at hm
  · rename_i hz
    obtain rfl := Option.some.inj hm
    refine ⟨p, i, _, _, rfl, rfl, g, by show xs.length + 1 < 4096; omega, ?_⟩
    refine k _ (Chg.wr g (fun z => z)) ⟨p, rfl, rfl, ?_⟩
    rw [upd_same]
    congr 1
    by_cases hc : xs.contains i = true
    · have e1 : (fun j => xs.contains j || decide (j = i)) = fun j => xs.contains j := by
        funext j
        by_cases hj : j = i
        · subst hj; rw [hc]; rfl
        · rw [decide_eq_false hj, Bool.or_false]
      rw [if_pos hc, if_pos hc]
      show SetO w p (fun j => xs.contains j || decide (j = i)) _ = _
      rw [e1]
    · rw [if_neg hc, if_neg hc]
      have e1 : (fun j => xs.contains j || decide (j = i)) = fun j => (xs ++ [i]).contains j := by
        funext j
        rw [List.contains_eq_mem, List.contains_eq_mem]
        by_cases hj : j = i
        · subst hj; simp
        · simp [hj]
      show SetO w p (fun j => xs.contains j || decide (j = i)) _ = _
      rw [e1, List.length_append]
      rfl
  · cases hm
/-! ### lists by their methods -/
theorem m_clear {xs : List α} (r : (yLst τ).rep K H F v xs) (k : ∀ H', Chg F H H' → (yLst τ).rep K H' F v [] → Q .non H') : rClear v [] H Q := by
  obtain ⟨p, vs, rfl, rfl, g, q⟩ := r
  exact ⟨p, vs, rfl, rfl, g, k _ (Chg.wr g (fun z => z)) ⟨p, [], rfl, rfl, upd_same, .nil⟩⟩
theorem pr_rev {R : V → α → Prop} : ∀ {vs : List V} {xs : List α}, Paired R vs xs → Paired R vs.reverse xs.reverse
  | _, _, .nil => .nil
  | _, _, .cons r t => by
    rw [List.reverse_cons, List.reverse_cons]
    exact pr_app (pr_rev t) (.cons r .nil)
theorem m_reverse {xs : List α} (r : (yLst τ).rep K H F v xs) (k : ∀ H', Chg F H H' → (yLst τ).rep K H' F v xs.reverse → Q .non H') : rReverse v [] H Q := by
  obtain ⟨p, vs, rfl, rfl, g, q⟩ := r
  have c : Chg [p] H (upd H p (.lst vs.reverse)) := Chg.wr g (fun z => z)
  exact ⟨p, vs, rfl, rfl, g, k _ c ⟨p, _, rfl, rfl, upd_same, Paired.mapP (pr_rev q) fun _ _ z => Ty.fz z c⟩⟩
theorem pr_dropLast {R : V → α → Prop} {vs : List V} {xs : List α} (r : Paired R vs xs) : Paired R vs.dropLast xs.dropLast := by
  rw [List.dropLast_eq_take, List.dropLast_eq_take, pr_len r]
  exact pr_take _ r
theorem pr_erase {R : V → α → Prop} {vs : List V} {xs : List α} (r : Paired R vs xs) (n : Nat) : Paired R (vs.eraseIdx n) (xs.eraseIdx n) := by
  rw [List.eraseIdx_eq_take_drop_succ, List.eraseIdx_eq_take_drop_succ]
  exact pr_app (pr_take _ r) (pr_drop _ r)
theorem m_pop {xs : List α} {p : α × List α} (r : (yLst τ).rep K H F v xs) (hm : Mi.popL xs = some p) (k : ∀ u H', Chg F H H' → τ.rep K H' [] u p.1 → (yLst τ).rep K H' F v p.2 → Q u H') : rPop v [] H Q := by
  obtain ⟨l, vs, rfl, rfl, g, q⟩ := r
  unfold Mi.popL at hm
  obtain ⟨y, hy, hm⟩ := Mi.bnd hm
  obtain rfl := Option.some.inj hm
  obtain ⟨u, hu, ru⟩ := pr_get q hy
  have c : Chg [l] H (upd H l (.lst vs.dropLast)) := Chg.wr g (fun z => z)
  exact ⟨l, vs, u, rfl, rfl, g, by rw [pr_len q]; exact hu, k u _ c (Ty.fz ru c) ⟨l, _, rfl, rfl, upd_same, Paired.mapP (pr_dropLast q) fun _ _ z => Ty.fz z c⟩⟩
theorem m_popAt {xs : List α} {p : α × List α} (r : (yLst τ).rep K H F v xs) (hm : Mi.popAt xs i = some p) (hb : xs.length ≤ Mi.big) (k : ∀ u H', Chg F H H' → τ.rep K H' [] u p.1 → (yLst τ).rep K H' F v p.2 → Q u H') : rPopAt v [.int i] H Q := by
  obtain ⟨l, vs, rfl, rfl, g, q⟩ := r
  unfold Mi.popAt at hm
  obtain ⟨j, hj, hm⟩ := Mi.bnd hm
  obtain ⟨y, hy, hm⟩ := Mi.bnd hm
  obtain rfl := Option.some.inj hm
  obtain ⟨u, hu, ru⟩ := pr_get q hy
  have c : Chg [l] H (upd H l (.lst (vs.eraseIdx j))) := Chg.wr g (fun z => z)
  obtain ⟨h1, h2, h3, h4⟩ := ixN_seq (show L2.ixN vs.length i = some j by rw [pr_len q]; exact hj)
  have hb2 : vs.length ≤ 1000000 := by rw [pr_len q]; exact hb
  exact ⟨l, vs, i, j, u, rfl, rfl, g, by omega, by omega, h1, hu, k u _ c (Ty.fz ru c) ⟨l, _, rfl, rfl, upd_same, Paired.mapP (pr_erase q j) fun _ _ z => Ty.fz z c⟩⟩
end
end G

namespace G
open PySem PySem.Spec PyProof.Rows L2
/-! ### a list whose items may hold lists -/
def Sub (F G : List Addr) : Prop := ∀ b ∈ F, b ∈ G
def yLsg {α : Type} (τ : Ty α) : Ty (List α) where
  rep K H F v xs := ∃ a vs G, v = .ref a ∧ F = a :: G ∧ a ∉ G ∧ H a = some (.lst vs) ∧ (∀ b ∈ G, ∃ o, H b = some o ∧ ¬ Froz o) ∧ Paired (fun u x => ∃ Fi, τ.rep K H Fi u x ∧ Sub Fi G) vs xs
  keep {K H H' F v xs} h k := by
    obtain ⟨a, vs, G, e, rfl, na, g, dm, r⟩ := h
    refine ⟨a, vs, G, e, rfl, na, k a _ g (.inl (List.mem_cons_self ..)), fun b hb => ?_, Paired.mapP r fun u x q => ?_⟩
    · obtain ⟨o, ho, hf⟩ := dm b hb
      exact ⟨o, k b o ho (.inl (List.mem_cons_of_mem _ hb)), hf⟩
    · obtain ⟨Fi, ru, sb⟩ := q
      exact ⟨Fi, τ.keep ru fun b o hb z => k b o hb (z.imp (fun y => List.mem_cons_of_mem _ (sb b y)) id), sb⟩
  dom {K H F v xs} h b m := by
    obtain ⟨a, vs, G, e, rfl, na, g, dm, r⟩ := h
    rcases List.mem_cons.mp m with rfl | m
    · exact ⟨_, g, fun z => z⟩
    · exact dm b m
section
variable {K : PySem.W.Frag} {σ σ' : L2.St} {H : Hp} {F F1 F2 Fu : List Addr} {ta tb te : TE} {v u x y : V} {i j : Int} {t tu tt : TT} {b c a : Bool} {α β : Type} {τ : Ty α} {υ : Ty β} {Q : VK} {D : Ends} {t1 t2 : TS} {g : TG} {ws : List Nat}
theorem lsg_sq {xs : List α} (r : (yLsg τ).rep K H F v xs) : ∃ a vs, v = .ref a ∧ a ∈ F ∧ SqL K H a vs ∧ Paired (fun u x => ∃ Fi, τ.rep K H Fi u x ∧ Sub Fi F ∧ a ∉ Fi) vs xs := by
  obtain ⟨a, vs, G, e, rfl, na, g, dm, q⟩ := r
  exact ⟨a, vs, e, List.mem_cons_self .., .inl (.inl g), Paired.mapP q fun u x z => by
    obtain ⟨Fi, ru, sb⟩ := z
    exact ⟨Fi, ru, fun b hb => List.mem_cons_of_mem _ (sb b hb), fun hb => na (sb a hb)⟩⟩
theorem nn_lsg {xs : List α} (r : (yLsg τ).rep K H F v xs) : v ≠ .non := by obtain ⟨a, vs, G, rfl, _⟩ := r; exact fun z => nomatch z
theorem ty_lsg {xs : List α} (r : (yLsg τ).rep K H F v xs) : TyX K H v (.type "list") := by
  obtain ⟨a, vs, G, rfl, _, _, g, _⟩ := r
  exact .base (.lst g)
theorem tyv_lsg {xs : List α} (r : (yLsg τ).rep K H F v xs) : tyV K "list" v H := by
  obtain ⟨a, vs, rfl, _, s, q⟩ := lsg_sq r
  exact .inl ⟨rfl, _, s⟩
theorem val_lenG {xs : List α} (r : (yLsg τ).rep K H F v xs) (ha : Val ta σ H v) : Val (tCB (rLenQ K) (tCons ta tNil)) σ H (.int (xs.length : Int)) := by
  obtain ⟨a, vs, e, _, s, q⟩ := lsg_sq r
  subst e
  exact fun Q k => ha _ ⟨a, vs, rfl, .inl s, by rw [pr_len q]; exact k⟩
theorem w_lenG {xs : List α} (r : (yLsg τ).rep K H F v xs) (k : Q (.int (xs.length : Int)) H) : rLenQ K [v] H Q := by
  obtain ⟨a, vs, e, _, s, q⟩ := lsg_sq r
  subst e
  exact ⟨a, vs, rfl, .inl s, by rw [pr_len q]; exact k⟩
/-- the item's own value -/
theorem itm_G {xs : List α} {x : α} (r : (yLsg τ).rep K H F v xs) (h : Mi.at_ xs i = some x) :
    ∃ u Fi, τ.rep K H Fi u x ∧ Sub Fi F ∧ (∀ p, v = .ref p → p ∉ Fi) ∧ (∀ {Q : VK}, Q u H → rIxL K v (.int i) H Q) ∧ ∀ {σ : L2.St} {ta tb : TE}, Val ta σ H v → Val tb σ H (.int i) → Val (tOp (rIxL K) ta tb) σ H u := by
  obtain ⟨a, vs, e, _, s, q⟩ := lsg_sq r
  subst e
  obtain ⟨u, e, Fi, ru, sb, na⟩ := pr_at q h
  have k : ∀ {Q : VK}, Q u H → rIxL K (.ref a) (.int i) H Q := fun k => ⟨a, vs, i, u, rfl, rfl, s, e, k⟩
  exact ⟨u, Fi, ru, sb, fun p hp => by obtain rfl := V.ref.inj hp; exact na, k, fun ha hb => val_op ha hb fun Q q => k q⟩
/-- a new list of such items -/
theorem e_lsg {vs : List V} {xs : List α} {G : List Addr} (z : vs.length ≤ Mi.big) (dm : ∀ b ∈ G, ∃ o, H b = some o ∧ ¬ Froz o) (r : Paired (fun u x => ∃ Fi, τ.rep K H Fi u x ∧ Sub Fi G) vs xs)
    (k : ∀ p H', H p = none → Chg [] H H' → (yLsg τ).rep K H' (p :: G) (.ref p) xs → Q (.ref p) H') : LstG vs H Q := by
  refine ⟨sz z, fun p np => k p _ np (Chg.new np) ⟨p, vs, G, rfl, rfl, fun hp => ?_, upd_same, fun b hb => ?_, Paired.mapP r fun u x q => ?_⟩⟩
  · obtain ⟨o, ho, _⟩ := dm p hp
    rw [np] at ho; cases ho
  · obtain ⟨o, ho, hf⟩ := dm b hb
    exact ⟨o, by rw [upd_ne (ne_of_none ho np)]; exact ho, hf⟩
  · obtain ⟨Fi, ru, sb⟩ := q
    exact ⟨Fi, Ty.ex ru (Chg.new np), sb⟩
theorem Ty.dm {d : α} (r : τ.rep K H F v d) : ∀ b ∈ F, ∃ o, H b = some o ∧ ¬ Froz o := τ.dom r
theorem dm_nil : ∀ b ∈ ([] : List Addr), ∃ o, H b = some o ∧ ¬ Froz o := fun b h => nomatch h
theorem dm_app (d1 : ∀ b ∈ F1, ∃ o, H b = some o ∧ ¬ Froz o) (d2 : ∀ b ∈ F2, ∃ o, H b = some o ∧ ¬ Froz o) : ∀ b ∈ F1 ++ F2, ∃ o, H b = some o ∧ ¬ Froz o := fun b h => (List.mem_append.mp h).elim (d1 b) (d2 b)
/-- xs.append(e) -/
theorem m_appG {xs ys : List α} {d : α} (r : (yLsg τ).rep K H F v xs) (ru : τ.rep K H Fu u d) (ap : ∀ p, v = .ref p → p ∉ Fu) (hm : Mi.app xs d = some ys)
    (k : ∀ H' F', Chg F H H' → (yLsg τ).rep K H' F' v ys → Sub F F' → Sub F' (F ++ Fu) → Q .non H') : rAppend v [u] H Q := by
  obtain ⟨p, vs, G, rfl, rfl, na, g, dm, q⟩ := r
  have np : p ∉ Fu := ap p rfl
  unfold Mi.app at hm
  split at hm
  · rename_i hz
    cases hm
    have c : Chg [p] H (upd H p (.lst (vs ++ [u]))) := Chg.wr g (fun z => z)
    have kp : ∀ {γ : Type} {ρ : Ty γ} {Fi : List Addr} {w : V} {e : γ}, ρ.rep K H Fi w e → p ∉ Fi → ρ.rep K (upd H p (.lst (vs ++ [u]))) Fi w e := fun rr hn => Ty.chg rr c fun b hb z => by
      rw [List.mem_singleton] at z; subst z; exact hn hb
    refine ⟨p, vs, u, rfl, rfl, g, Nat.lt_of_lt_of_le (by rw [pr_len q]; exact hz) line_big, k _ (p :: (G ++ Fu)) (c.mono fun b hb => by rw [List.mem_singleton] at hb; subst hb; exact List.mem_cons_self ..) ⟨p, _, G ++ Fu, rfl, rfl, ?_, upd_same, ?_, ?_⟩ ?_ ?_⟩
    · intro hp
      exact (List.mem_append.mp hp).elim na np
    · intro b hb
      have hbp : b ≠ p := fun e => by subst e; exact (List.mem_append.mp hb).elim na np
      obtain ⟨o, ho, hf⟩ := dm_app dm (Ty.dm ru) b hb
      exact ⟨o, by rw [upd_ne hbp]; exact ho, hf⟩
    · refine pr_app (Paired.mapP q fun w e z => ?_) (.cons ⟨Fu, kp ru np, fun b hb => List.mem_append_right _ hb⟩ .nil)
      obtain ⟨Fi, rr, sb⟩ := z
      exact ⟨Fi, kp rr fun hp => na (sb p hp), fun b hb => List.mem_append_left _ (sb b hb)⟩
    · intro b hb
      rcases List.mem_cons.mp hb with rfl | hb
      · exact List.mem_cons_self ..
      · exact List.mem_cons_of_mem _ (List.mem_append_left _ hb)
    · intro b hb
      rcases List.mem_cons.mp hb with rfl | hb
      · exact List.mem_append_left _ (List.mem_cons_self ..)
      · rcases List.mem_append.mp hb with hb | hb
        · exact List.mem_append_left _ (List.mem_cons_of_mem _ hb)
        · exact List.mem_append_right _ hb
  · cases hm
theorem Dj.ap {p : Addr} (d : Dj F Fu) (hp : p ∈ F) : p ∉ Fu := d p hp
theorem ap_of {xs : List α} (r : (yLsg τ).rep K H F v xs) (d : Dj F Fu) : ∀ p, v = .ref p → p ∉ Fu := fun p e => by
  obtain ⟨a, vs, G, e2, rfl, _⟩ := r
  rw [e] at e2
  obtain rfl := V.ref.inj e2
  exact d p (List.mem_cons_self ..)
theorem Dj.grow {G' : List Addr} (d : Dj F1 F) (d2 : Dj F1 Fu) (s : Sub G' (F ++ Fu)) : Dj F1 G' := fun b hb z => (List.mem_append.mp (s b z)).elim (d b hb) (d2 b hb)
theorem fresh_grow {H0 : Hp} {G' : List Addr} (n1 : ∀ a ∈ F, H0 a = none) (n2 : ∀ a ∈ Fu, H0 a = none) (s : Sub G' (F ++ Fu)) : ∀ a ∈ G', H0 a = none := fun b hb => (List.mem_append.mp (s b hb)).elim (n1 b) (n2 b)
theorem fresh_cons {H0 : Hp} {p : Addr} (n1 : H0 p = none) (n2 : ∀ a ∈ F, H0 a = none) : ∀ a ∈ p :: F, H0 a = none := fun b hb => by
  rcases List.mem_cons.mp hb with rfl | hb
  · exact n1
  · exact n2 b hb
theorem Dj.consR {p : Addr} (d1 : Dj F [p]) (d2 : Dj F F2) : Dj F (p :: F2) := fun b hb z => by
  rcases List.mem_cons.mp z with rfl | z
  · exact d1 b hb (List.mem_singleton.mpr rfl)
  · exact d2 b hb z
theorem Dj.subR {G' : List Addr} (d : Dj F G') (s : Sub F1 G') : Dj F F1 := fun b hb z => d b hb (s b z)
/-- a loop over it -/
theorem l_lsg {g : TG} {tb : TS} {nx : L2.St → Hp → Prop} {xs : List α} (r : (yLsg τ).rep K H F v xs) (Pv : Nat → L2.St → Hp → Prop) (h0 : Pv 0 σ H) (hl : ∀ i σ' H', Pv i σ' H' → (yLsg τ).rep K H' F v xs)
    (hs : ∀ (i : Nat) (x : α) (u : V) (Fi : List Addr) σ' H', xs[i]? = some x → τ.rep K H' Fi u x → Sub Fi F → Pv i σ' H' → g u σ' H' fun σ2 H2 => tb { D with nx := Pv (i + 1), ct := Pv (i + 1), bk := nx } σ2 H2) (hd : ∀ σ' H', Pv xs.length σ' H' → nx σ' H') :
    ∃ a, v = .ref a ∧ (∃ xs, SqL K H a xs) ∧ LoopG (Itl K a) g tb D nx σ H := by
  obtain ⟨a, vs, e, _, s, q⟩ := lsg_sq r
  refine ⟨a, e, ⟨vs, s⟩, fun i m σ' H' => m = xs.length - i ∧ i ≤ xs.length ∧ Pv i σ' H', ⟨xs.length, by omega, Nat.zero_le _, h0⟩, ?_⟩
  rintro i m σ' H' ⟨rfl, hi, p⟩
  obtain ⟨a', vs', e', _, s', q'⟩ := lsg_sq (hl i σ' H' p)
  obtain rfl : a = a' := by rw [e] at e'; exact V.ref.inj e'
  by_cases hlt : i < xs.length
  · obtain ⟨u, hu, Fi, ru, sb, _⟩ := pr_get q' (List.getElem?_eq_getElem hlt)
    refine .inr ⟨⟨vs', u, s', hu⟩, Pv (i + 1), fun σ2 H2 p' => ⟨xs.length - (i + 1), by omega, rfl, hlt, p'⟩, fun x H2 y => ?_⟩
    obtain ⟨rfl, y⟩ := y
    obtain rfl : x = u := Option.some.inj ((y _ s').symm.trans hu)
    exact hs i _ _ Fi σ' _ (List.getElem?_eq_getElem hlt) ru sb p
  · obtain rfl : i = xs.length := by omega
    exact .inl ⟨⟨vs', s', by rw [pr_len q']; exact Nat.le_refl _⟩, hd σ' H' p⟩
theorem kc_lsg {xs : List β} (r : (yLsg υ).rep K H F v xs) (Pv : Addr → Nat → Hp → Prop) (h0 : ∀ D H', H D = none → Chg [] H H' → (yLst τ).rep K H' [D] (.ref D) [] → Pv D 0 H') (hl : ∀ D i H', Pv D i H' → (yLsg υ).rep K H' F v xs)
    (hs : ∀ D (i : Nat) (x : β) (u : V) (Fi : List Addr) H', xs[i]? = some x → υ.rep K H' Fi u x → Sub Fi F → Pv D i H' → TurnG g tt te ws σ D (Pv D (i + 1)) u H') (hd : ∀ D H', H D = none → Pv D xs.length H' → Q (.ref D) H') :
    ∃ a, v = .ref a ∧ (∃ xs, SqL K H a xs) ∧ CompG (Itl K a) g tt te ws σ H Q := by
  obtain ⟨a, vs, e, _, s, q⟩ := lsg_sq r
  refine ⟨a, e, ⟨vs, s⟩, comp_by (K := K) (τ := τ) xs.length Pv h0 (fun D i H' hi p => ?_) (fun D H' hD p => ?_)⟩
  · obtain ⟨a', vs', e', _, s', q'⟩ := lsg_sq (hl D i H' p)
    obtain rfl : a = a' := by rw [e] at e'; exact V.ref.inj e'
    obtain ⟨u, hu, Fi, ru, sb, _⟩ := pr_get q' (List.getElem?_eq_getElem hi)
    refine ⟨⟨vs', u, s', hu⟩, fun x H2 y => ?_⟩
    obtain ⟨rfl, y⟩ := y
    obtain rfl : x = u := Option.some.inj ((y _ s').symm.trans hu)
    exact hs D i _ _ Fi _ (List.getElem?_eq_getElem hi) ru sb p
  · obtain ⟨a', vs', e', _, s', q'⟩ := lsg_sq (hl D _ H' p)
    obtain rfl : a = a' := by rw [e] at e'; exact V.ref.inj e'
    exact ⟨⟨vs', s', by rw [pr_len q']; exact Nat.le_refl _⟩, hd D H' hD p⟩
theorem w_listG {xs : List α} (r : (yLsg τ).rep K H F v xs) (k : ∀ p H' F', H p = none → Chg [] H H' → (yLsg τ).rep K H' F' (.ref p) xs → Sub F' (p :: F) → Q (.ref p) H') : rListQ K [v] H Q := by
  obtain ⟨a, vs, G, rfl, rfl, na, g, dm, q⟩ := r
  refine ⟨a, vs, rfl, .inl (.inl (.inl g)), fun n nn => k n _ (n :: G) nn (Chg.new nn) ⟨n, vs, G, rfl, rfl, fun hp => ?_, upd_same, fun b hb => ?_, Paired.mapP q fun w e z => ?_⟩ fun b hb => ?_⟩
  · obtain ⟨o, ho, _⟩ := dm n hp
    rw [nn] at ho; cases ho
  · obtain ⟨o, ho, hf⟩ := dm b hb
    exact ⟨o, by rw [upd_ne (ne_of_none ho nn)]; exact ho, hf⟩
  · obtain ⟨Fi, rr, sb⟩ := z
    exact ⟨Fi, Ty.ex rr (Chg.new nn), sb⟩
  · rcases List.mem_cons.mp hb with rfl | hb
    · exact List.mem_cons_self ..
    · exact List.mem_cons_of_mem _ (List.mem_cons_of_mem _ hb)
end
/-! ### data compared as a whole -/
structure Dat {α : Type} (τ : Ty α) (n : Nat) where
  f : α → PyData
  dec : DecidableEq α
  dp : ∀ {K : PySem.W.Frag} {H : Hp} {F : List Addr} {v : V} {d : α}, τ.rep K H F v d → Dp K H v (f d)
  lay : ∀ d, (f d).canLay0 = true
  dpt : ∀ d, (f d).depth ≤ n
  eqv : ∀ d e, PyData.eqv (f d) (f e) = decide (d = e)
theorem beq_dec {α : Type} [DecidableEq α] [BEq α] [LawfulBEq α] (a b : α) : (a == b) = decide (a = b) := by
  by_cases h : a = b
  · subst h; simp
  · rw [decide_eq_false h]; simpa using h
def dat_int : Dat yInt 0 where
  f := .int
  dec := inferInstance
  dp := fun h => by obtain ⟨_, rfl⟩ := h; exact .int _
  lay := fun d => by simp [PyData.canLay0]
  dpt := fun d => by simp [PyData.depth]
  eqv := fun d e => by simp only [PyData.eqv]; exact beq_dec d e
def dat_bool : Dat yBool 0 where
  f := .bool
  dec := inferInstance
  dp := fun h => by obtain ⟨_, rfl⟩ := h; exact .bl _
  lay := fun d => by simp [PyData.canLay0]
  dpt := fun d => by simp [PyData.depth]
  eqv := fun d e => by simp only [PyData.eqv]; exact beq_dec d e
section
variable {α β : Type} {τ : Ty α} {n m : Nat}
theorem dpAll {K : PySem.W.Frag} {H : Hp} {R : V → α → Prop} {f : α → PyData} (h : ∀ u x, R u x → Dp K H u (f x)) : ∀ {vs : List V} {xs : List α}, Paired R vs xs → DpAll K H vs (xs.map f)
  | _, _, .nil => .nil
  | _, _, .cons r t => .cons (h _ _ r) (dpAll h t)
theorem layAll {f : α → PyData} (h : ∀ d, (f d).canLay0 = true) : ∀ xs : List α, PyData.canLayAll0 (xs.map f) = true
  | [] => by simp [PyData.canLayAll0]
  | x :: xs => by simp [PyData.canLayAll0, h x, layAll h xs]
theorem dptAll {f : α → PyData} (h : ∀ d, (f d).depth ≤ n) : ∀ xs : List α, PyData.depthAll (xs.map f) ≤ n
  | [] => by simp [PyData.depthAll]
  | x :: xs => by
    simp only [List.map_cons, PyData.depthAll]
    exact Nat.max_le.mpr ⟨h x, dptAll h xs⟩
theorem eqvAllL [DecidableEq α] {f : α → PyData} (h : ∀ d e, PyData.eqv (f d) (f e) = decide (d = e)) : ∀ xs ys : List α, PyData.eqvAll (xs.map f) (ys.map f) = decide (xs = ys)
  | [], [] => by simp [PyData.eqvAll]
  | [], y :: ys => by simp [PyData.eqvAll]
  | x :: xs, [] => by simp [PyData.eqvAll]
  | x :: xs, y :: ys => by
    simp only [List.map_cons, PyData.eqvAll, h x y, eqvAllL h xs ys]
    by_cases h1 : x = y
    · by_cases h2 : xs = ys
      · simp [h1, h2]
      · simp [h2]
    · simp [h1]
def dat_lst (d : Dat τ n) : Dat (yLst τ) (n + 1) where
  f := fun xs => .list (xs.map d.f)
  dec := @instDecidableEqList _ d.dec
  dp := fun h => by
    obtain ⟨a, vs, rfl, s, q⟩ := lst_sq h
    exact .lst s (dpAll (fun u x z => d.dp z) q)
  lay := fun xs => by simp only [PyData.canLay0]; exact layAll d.lay xs
  dpt := fun xs => by simp only [PyData.depth]; exact Nat.succ_le_succ (dptAll d.dpt xs)
  eqv := fun xs ys => by simp only [PyData.eqv]; exact @eqvAllL _ d.dec _ d.eqv xs ys
def dat_lsg (d : Dat τ n) : Dat (yLsg τ) (n + 1) where
  f := fun xs => .list (xs.map d.f)
  dec := @instDecidableEqList _ d.dec
  dp := fun h => by
    obtain ⟨a, vs, rfl, _, s, q⟩ := lsg_sq h
    exact .lst s (dpAll (fun u x z => by obtain ⟨Fi, ru, _⟩ := z; exact d.dp ru) q)
  lay := fun xs => by simp only [PyData.canLay0]; exact layAll d.lay xs
  dpt := fun xs => by simp only [PyData.depth]; exact Nat.succ_le_succ (dptAll d.dpt xs)
  eqv := fun xs ys => by simp only [PyData.eqv]; exact @eqvAllL _ d.dec _ d.eqv xs ys
def dat_tupl (d : Dat τ n) : Dat (yTupL τ) (n + 1) where
  f := fun xs => .tuple (xs.map d.f)
  dec := @instDecidableEqList _ d.dec
  dp := fun h => by
    obtain ⟨a, vs, rfl, s, q⟩ := tupl_sq h
    exact .tup s (dpAll (fun u x z => d.dp z) q)
  lay := fun xs => by simp only [PyData.canLay0]; exact layAll d.lay xs
  dpt := fun xs => by simp only [PyData.depth]; exact Nat.succ_le_succ (dptAll d.dpt xs)
  eqv := fun xs ys => by simp only [PyData.eqv]; exact @eqvAllL _ d.dec _ d.eqv xs ys
end
structure Sat {α : Type} (ts : Tys α) (n : Nat) where
  f : α → List PyData
  dec : DecidableEq α
  dp : ∀ {K : PySem.W.Frag} {H : Hp} {F : List Addr} {vs : List V} {d : α}, ts.rep K H F vs d → DpAll K H vs (f d)
  lay : ∀ d, PyData.canLayAll0 (f d) = true
  dpt : ∀ d, PyData.depthAll (f d) ≤ n
  eqv : ∀ d e, PyData.eqvAll (f d) (f e) = decide (d = e)
section
variable {α β : Type} {τ : Ty α} {ts : Tys β} {n m : Nat}
def sat_one (d : Dat τ n) : Sat (sOne τ) n where
  f := fun x => [d.f x]
  dec := d.dec
  dp := fun h => by obtain ⟨v, rfl, r⟩ := h; exact .cons (d.dp r) .nil
  lay := fun x => by simp [PyData.canLayAll0, d.lay x]
  dpt := fun x => by simp only [PyData.depthAll]; exact Nat.max_le.mpr ⟨d.dpt x, Nat.zero_le _⟩
  eqv := fun x y => by simp [PyData.eqvAll, d.eqv x y]
def sat_cons (d : Dat τ n) (s : Sat ts m) : Sat (sCons τ ts) (max n m) where
  f := fun x => d.f x.1 :: s.f x.2
  dec := @instDecidableEqProd _ _ d.dec s.dec
  dp := fun h => by obtain ⟨v, ws, F1, F2, rfl, _, r, q⟩ := h; exact .cons (d.dp r) (s.dp q)
  lay := fun x => by simp [PyData.canLayAll0, d.lay x.1, s.lay x.2]
  dpt := fun x => by
    simp only [PyData.depthAll]
    have h1 := d.dpt x.1
    have h2 := s.dpt x.2
    omega
  eqv := fun x y => by
    obtain ⟨x1, x2⟩ := x
    obtain ⟨y1, y2⟩ := y
    letI := d.dec
    letI := s.dec
    simp only [PyData.eqvAll, d.eqv x1 y1, s.eqv x2 y2]
    by_cases h1 : x1 = y1
    · by_cases h2 : x2 = y2
      · subst h1 h2; simp
      · have : ¬ ((x1, x2) = (y1, y2)) := fun e => h2 (Prod.mk.inj e).2
        simp only [h2, decide_false, Bool.and_false]
        exact (decide_eq_false this).symm
    · have : ¬ ((x1, x2) = (y1, y2)) := fun e => h1 (Prod.mk.inj e).1
      simp only [h1, decide_false, Bool.false_and]
      exact (decide_eq_false this).symm
def dat_tup (s : Sat ts m) : Dat (yTup ts) (m + 1) where
  f := fun x => .tuple (s.f x)
  dec := s.dec
  dp := fun h => by obtain ⟨a, vs, rfl, sq, q⟩ := h; exact .tup sq (s.dp q)
  lay := fun x => by simp only [PyData.canLay0]; exact s.lay x
  dpt := fun x => by simp only [PyData.depth]; exact Nat.succ_le_succ (s.dpt x)
  eqv := fun x y => by simp only [PyData.eqv]; exact s.eqv x y
end
section
variable {X : Cx} {K : PySem.W.Frag} {H : Hp} {F1 F2 : List Addr} {v u : V} {α : Type} {τ : Ty α} {Q : VK} {n : Nat} {x y : α}
theorem op_eq_d {K : PySem.W.Frag} (hu : X.A.units + 64 < cLine) (e : X.K = K := by rfl) : OpR X (compareOp .Eq) (rEqD K) := by subst e; exact op_eqD hu
theorem op_ne_d {K : PySem.W.Frag} (hu : X.A.units + 64 < cLine) (e : X.K = K := by rfl) : OpR X (compareOp .NotEq) (rNeD K) := by subst e; exact op_neD hu
theorem Dat.shaped (d : Dat τ n) (hn : n ≤ 64) (x : α) : SeqAt.shaped (d.f x) = true := by
  unfold SeqAt.shaped
  rw [d.lay x, decide_eq_true (Nat.le_trans (d.dpt x) hn)]
  rfl
theorem w_eqD [i : DecidableEq α] (d : Dat τ n) (r : τ.rep K H F1 v x) (q : τ.rep K H F2 u y) (k : Q (.bl (decide (x = y))) H) (hn : n ≤ 64 := by decide) : rEqD K v u H Q :=
  ⟨_, _, d.dp r, d.dp q, d.shaped hn x, d.shaped hn y, by
    have e : @decide (x = y) (d.dec x y) = @decide (x = y) (i x y) := by congr
    rw [d.eqv, e]; exact k⟩
theorem w_neD [i : DecidableEq α] (d : Dat τ n) (r : τ.rep K H F1 v x) (q : τ.rep K H F2 u y) (k : Q (.bl (!decide (x = y))) H) (hn : n ≤ 64 := by decide) : rNeD K v u H Q :=
  ⟨_, _, d.dp r, d.dp q, d.shaped hn x, d.shaped hn y, by
    have e : @decide (x = y) (d.dec x y) = @decide (x = y) (i x y) := by congr
    rw [d.eqv, e]; exact k⟩
end
end G
namespace G
open PySem PySem.Spec PyProof.Rows L2
section
variable {K : PySem.W.Frag} {σ σ' : L2.St} {H : Hp} {F F1 F2 Fu : List Addr} {ta tb te : TE} {v u x y : V} {i j : Int} {α β : Type} {τ : Ty α} {υ : Ty β} {Q : VK} {D : Ends} {t1 t2 : TS} {g : TG} {ws : List Nat}
theorem lsg_nil {p : Addr} {υ : Ty β} (r : (yLst υ).rep K H [p] (.ref p) []) : (yLsg τ).rep K H [p] (.ref p) [] := by
  obtain ⟨a, vs, e, f, g, q⟩ := r
  obtain rfl := V.ref.inj e
  cases q
  exact ⟨p, [], [], rfl, rfl, List.not_mem_nil, g, fun b h => absurd h List.not_mem_nil, Paired.nil⟩
theorem e_appG {D : Addr} {N : Hp → Prop} {xs ys : List α} {d : α} (r : (yLsg τ).rep K H F (.ref D) xs) (ru : τ.rep K H Fu u d) (ap : ∀ p, V.ref D = .ref p → p ∉ Fu) (hm : Mi.app xs d = some ys)
    (k : ∀ H' F', Chg F H H' → (yLsg τ).rep K H' F' (.ref D) ys → Sub F F' → Sub F' (F ++ Fu) → N H') : AppG D N u H := by
  have h := m_appG (Q := fun _ H' => N H') r ru ap hm k
  obtain ⟨l, xs', y, e, e2, g, hz, q⟩ := h
  obtain rfl := V.ref.inj e
  obtain rfl : u = y := by simpa using e2
  exact ⟨xs', g, hz, q⟩
theorem enumF_at {α : Type} : ∀ (k : Int) (xs : List α) (i : Nat) {x : α}, xs[i]? = some x → (Mi.enumF k xs)[i]? = some (k + i, x)
  | _, [], _, _, h => by simp at h
  | k, y :: ys, 0, x, h => by
    obtain rfl : y = x := by simpa using h
    show some (k, y) = some (k + ((0 : Nat) : Int), y)
    rw [show k + ((0 : Nat) : Int) = k by omega]
  | k, y :: ys, i + 1, x, h => by
    show (Mi.enumF (k + 1) ys)[i]? = _
    rw [enumF_at (k + 1) ys i (by simpa using h)]
    congr 2
    omega
theorem enumF_len {α : Type} : ∀ (k : Int) (xs : List α), (Mi.enumF k xs).length = xs.length
  | _, [] => rfl
  | k, _ :: ys => by show (Mi.enumF (k + 1) ys).length + 1 = ys.length + 1; rw [enumF_len]
theorem w_iEnum {ts : TA} {R : It → Hp → Prop} (h : ts σ H fun vs H1 => ∃ a xs, vs = [.ref a] ∧ SqL K H1 a xs ∧ R (Ite K a) H1) : iEnum K ts σ H R := h
theorem l_enum {tb : TS} {nx : L2.St → Hp → Prop} {xs : List α} {i1 i2 : Nat} (r : (yLst τ).rep K H F v xs) (Pv : Nat → L2.St → Hp → Prop) (h0 : Pv 0 σ H) (hl : ∀ i σ' H', Pv i σ' H' → (yLst τ).rep K H' F v xs)
    (hs : ∀ (i : Nat) (x : Int × α) (u : V) σ' H' H2, (Mi.enumF 0 xs)[i]? = some x → Chg [] H' H2 → τ.rep K H2 [] u x.2 → Pv i σ' H' → tb { D with nx := Pv (i + 1), ct := Pv (i + 1), bk := nx } ((σ'.set i1 (some (.int x.1))).set i2 (some u)) H2) (hd : ∀ σ' H', Pv (Mi.enumF 0 xs).length σ' H' → nx σ' H') :
    ∃ a xs, [v] = [.ref a] ∧ SqL K H a xs ∧ LoopG (Ite K a) (gTup K 2 (gCons (gName i1) (gCons (gName i2) gNil))) tb D nx σ H := by
  obtain ⟨a, vs, rfl, s, q⟩ := lst_sq r
  refine ⟨a, vs, rfl, s, fun i m σ' H' => m = xs.length - i ∧ i ≤ xs.length ∧ Pv i σ' H', ⟨xs.length, by omega, Nat.zero_le _, h0⟩, ?_⟩
  rintro i m σ' H' ⟨rfl, hi, p⟩
  obtain ⟨a', vs', e', s', q'⟩ := lst_sq (hl i σ' H' p)
  obtain rfl := V.ref.inj e'
  by_cases hlt : i < xs.length
  · obtain ⟨u, hu, ru⟩ := pr_get q' (List.getElem?_eq_getElem hlt)
    refine .inr ⟨⟨vs', u, s', hu⟩, Pv (i + 1), fun σ2 H2 p' => ⟨xs.length - (i + 1), by omega, rfl, hlt, p'⟩, fun x H2 y => ?_⟩
    obtain ⟨T, w, rfl, nT, rfl, y⟩ := y
    obtain rfl : w = u := Option.some.inj ((y _ s').symm.trans hu)
    have hx := enumF_at 0 xs i (List.getElem?_eq_getElem hlt)
    have c : Chg [] H' (upd H' T (.tup [.int (i : Nat), w])) := Chg.new nT
    have h := hs i _ w σ' H' _ hx c (Ty.ex ru c) p
    have e0 : (0 : Int) + (i : Int) = (i : Int) := Int.zero_add _
    rw [e0] at h
    exact ⟨T, _, rfl, .inl (.inl upd_same), rfl, _, _, rfl, _, _, rfl, rfl, h⟩
  · obtain rfl : i = xs.length := by omega
    exact .inl ⟨⟨vs', s', by rw [pr_len q']; exact Nat.le_refl _⟩, hd σ' H' (by rw [enumF_len]; exact p)⟩
end
end G
namespace G
theorem of_guard {p : Prop} [Decidable p] {u : Unit} (h : Mi.guardO (decide p) = some u) : p := by
  unfold Mi.guardO at h
  split at h
  · exact of_decide_eq_true (by assumption)
  · cases h
end G

/-! ### enumerate over a tuple -/
namespace PySem
open Sem (wp)
theorem enumT_meets (l : Addr) (its : Array Value) :
    Meets (Builtin.«enumerate.__new__» ⟨[.type "enumerate", .ref l], []⟩) (fun _ R s => s.heap.IsTuple l its ∧
      R (.ok (.ret (.ref (s.heap.push { cls := .type "tuple_iterator", data := .fields #[.ref l, .int 0 0] }).objs.size)))
        { s with heap := (s.heap.push { cls := .type "tuple_iterator", data := .fields #[.ref l, .int 0 0] }).push { cls := .type "enumerate", data := .fields #[.none, .bool false, .ref s.heap.objs.size, rawInt 0, .none, .none] } }) :=
  .of_wp fun prog w A R s hz => by
    obtain ⟨hp, gl, d, tk, os⟩ := s
    obtain ⟨hT, hz⟩ := hz
    have hsb := sub_enumerate
    have ht : Heap.IsTuple (Shared.heap ⟨hp, gl, d, tk, os⟩) l its := hT
    wp_walk
    refine wpAny_stack_any fun stk => wpAny_pure ?_
    split
    · rename_i c _ _ _ _ _
      cases (c == Value.type "enumerate")
      all_goals (wp_walk using wpAny_pyIter_tuple ht; exact ⟨_, rfl, hz⟩)
    · (wp_walk using wpAny_pyIter_tuple ht); exact ⟨_, rfl, hz⟩
section
variable {prog : Program} {w : World} {A : Around} {E : Value → Shared → Prop} {s : Shared}
theorem enumT_call {l : Addr} {its : Array Value} {Q : Value → Shared → Prop} (hL : s.heap.IsTuple l its)
    (k : ∀ h', IsEnum h' (s.heap.objs.size + 1) s.heap.objs.size 0 .none → h'.IsTupleIter s.heap.objs.size l 0 → h'.objs.size = s.heap.objs.size + 2 →
      (∀ b o, s.heap.get? b = some o → h'.get? b = some o) → Q (.ref (s.heap.objs.size + 1)) { s with heap := h' }) :
    wpAny (model prog w) A (call (.type "enumerate") [.ref l]) Q E s := by
  refine callType_new F.called_enumerate (by decide) (F.typeCall_enumerate_1 _) (F.newCall_enumerate_1 _) (fun ob => F.args_object_init_2 ob _) F.entry_enumerate_new (enumT_meets l its) ⟨hL, ?_⟩
  have sz : (s.heap.push { cls := .type "tuple_iterator", data := .fields #[.ref l, .int 0 0] }).objs.size = s.heap.objs.size + 1 := Heap.size_push ..
  show _ ∧ _
  rw [sz]
  have en : IsEnum ((s.heap.push { cls := .type "tuple_iterator", data := .fields #[.ref l, .int 0 0] }).push
      { cls := .type "enumerate", data := .fields #[.none, .bool false, .ref s.heap.objs.size, rawInt 0, .none, .none] }) (s.heap.objs.size + 1) s.heap.objs.size 0 .none := by
    have z := Heap.get?_push_size (s.heap.push { cls := .type "tuple_iterator", data := .fields #[.ref l, .int 0 0] })
      (o := { cls := .type "enumerate", data := .fields #[.none, .bool false, .ref s.heap.objs.size, rawInt 0, .none, .none] }) rfl
    rw [sz] at z; exact z
  exact ⟨⟨_, en, rfl⟩, k _ en ⟨_, Heap.get?_push_of_some _ (Heap.get?_push_size _ rfl), rfl, rfl⟩ (by rw [Heap.size_push, sz]) fun b o x => Heap.get?_push_of_some _ (Heap.get?_push_of_some _ x)⟩
end
end PySem
namespace L2
open PySem PySem.Spec PyProof.Rows
/-- the tuple at a, each item in a new pair -/
def ItT (K : PySem.W.Frag) (a : Addr) : It :=
  ⟨fun i H => ∃ (xs : List V) (x : V), SqT K H a xs ∧ xs[i]? = some x, fun i H v H' => ∃ T x, v = .ref T ∧ H T = none ∧ H' = upd H T (.tup [.int (i : Nat), x]) ∧ ∀ xs, SqT K H a xs → xs[i]? = some x, fun i H => ∃ xs : List V, SqT K H a xs ∧ xs.length ≤ i⟩
theorem turn_enumT {P : Program} {w : World} {K : PySem.W.Frag} {elts : List Expr} {kk : Nat} {tpos : Pos} (a e it : Addr) :
    Turn P w K (.Tuple elts kk tpos) (ItT K a) [e, it] e (fun i h => (∃ old, IsEnum h e it ((i : Nat) : Int) old) ∧ h.IsTupleIter it a i ∧ e ≠ it) where
  mem := by simp
  obj := fun i h st b hb => by
    obtain ⟨⟨old, he⟩, ⟨o, ho, hc, hd⟩, _⟩ := st
    rcases (show b = e ∨ b = it by simpa using hb) with z | z
    · rw [z]; exact ⟨_, he, fun v q => nomatch q⟩
    · rw [z]; exact ⟨o, ho, fun v q => by rw [hd] at q; cases q⟩
  keep := fun i h h' st k => let ⟨⟨old, he⟩, hi, hne⟩ := st; ⟨⟨old, k e (by simp) _ he⟩, hi.at fun o q => k it (by simp) o q, hne⟩
  item := by
    intro X hP hw hK hc i pins s σ H E I hf st hg
    subst hP hw hK
    obtain ⟨⟨old, hen⟩, hit, hne⟩ := st
    obtain ⟨xs, x, hsq, hx⟩ := hg
    obtain ⟨its, rv, pT, _⟩ := I.tuple hsq
    obtain ⟨u, hu, ru⟩ := rv.get hx
    have hel : e < s.heap.objs.size := Heap.lt_size hen
    have hil : it < s.heap.objs.size := by obtain ⟨_, q, _⟩ := hit; exact Heap.lt_size q
    have hT : s.heap.IsTuple a its.toArray := pT
    have hai : a ≠ it := fun z => by
      obtain ⟨o1, e1, c1, _⟩ := hT
      obtain ⟨o2, e2, c2, _⟩ := hit
      rw [z, e2] at e1
      cases e1
      rw [c1] at c2
      exact absurd c2 (by decide)
    have hea : e ≠ a := fun z => by
      obtain ⟨o1, e1, c1, _⟩ := hT
      rw [← z] at e1
      have z2 : s.heap.get? e = _ := hen
      rw [z2] at e1
      cases e1
      exact absurd (show (Value.type "enumerate" : Value) = .type "tuple" from c1) (by decide)
    have hD := Draws.tuple (prog := X.prog) (w := X.w) (A := X.A.in1) (I.ok.hd hc) it a hai its.toArray
    refine wpAny_pyNext_enum_itemD hD hen ⟨hit, hT⟩ (by have := (List.getElem?_eq_some_iff.mp hu).1; simpa using this) hne (by simp [hne, hea]) fun y h' tk hy ho st' hT1 hsz hk => ?_
    obtain rfl : u = y := by
      have hy' : its.toArray[i]? = some y := hy
      rw [List.getElem?_toArray, hu] at hy'
      exact Option.some.inj hy'
    refine ⟨_, rfl, wpAny_letOwnedTupleGo_enum (s := { s with heap := h', toks := tk + 1 }) ho fun h2 he2 sb => ?_⟩
    have hT2 : h2.get? s.heap.objs.size = some { cls := .type "tuple", data := .seq #[.int i tk, u] } := (sb.2 _ (Nat.ne_of_gt hel)).trans hT1
    have nw : ObjOk X.prog X.w (upd H s.heap.objs.size (.tup [.int (i : Nat), x])) h2 s.heap.objs.size (.tup [.int (i : Nat), x]) :=
      ⟨by show 2 ≤ sizeLine; decide, [.int i tk, u], .cons ⟨_, rfl⟩ (.cons ru .nil), ⟨_, hT2, rfl, _, rfl⟩⟩
    have I1 : Inv X pins σ (upd H s.heap.objs.size (.tup [.int (i : Nat), x])) { s with heap := h2, toks := tk + 1 } :=
      I.turnedNew (ch := [e, it]) (fun b ob hb q => (sb.2 b (fun z => hb (by simp [z]))).trans (hk b ob (fun z => hb (by simp [z])) (fun z => hb (by simp [z])) q)) hf (Nat.le_refl _) nw
    refine ⟨.ref s.heap.objs.size, _, I1, rfl, ⟨_, x, rfl, I.hok.fresh (Nat.le_refl _), rfl, fun ys hy => by rw [I.tuple_inj hy hsq]; exact hx⟩, ⟨⟨u, ?_⟩, st'.1.at fun o q => (sb.2 it (Ne.symm hne)).trans q, hne⟩, fun b hb => ?_⟩
    · rw [show ((i + 1 : Nat) : Int) = (i : Int) + 1 by omega]; exact he2
    · have hb' : b < s.heap.objs.size := by
        rcases (show b = e ∨ b = it by simpa using hb) with z | z
        · rw [z]; exact hel
        · rw [z]; exact hil
      rw [upd_ne (Nat.ne_of_lt hb')]
      exact (hf b hb).1
  done := by
    intro X hP hw hK hc i pins s σ H E I hf st hg
    subst hP hw hK
    obtain ⟨⟨old, hen⟩, hit, hne⟩ := st
    obtain ⟨xs, hsq, hx⟩ := hg
    obtain ⟨its, rv, pT, _⟩ := I.tuple hsq
    obtain ⟨f0, f1, f2, f3, f4, f5⟩ := hf it (by simp)
    have hl := rv.length
    have hT : s.heap.IsTuple a its.toArray := pT
    have hai : a ≠ it := fun z => by
      obtain ⟨o1, e1, c1, _⟩ := hT
      obtain ⟨o2, e2, c2, _⟩ := hit
      rw [z, e2] at e1
      cases e1
      rw [c1] at c2
      exact absurd c2 (by decide)
    have hTy : s.TypeIs (.ref e) "enumerate" := ⟨_, hen, rfl⟩
    unfold pyNext
    refine wpAny_bind (wpAny_attempt (wpAny_callSpecial?_slot (name := Str.ofString "__next__") hTy F.slot_enumerate_next (wpAny_call_entry F.slot_enumerate_next hTy F.entry_enumerate_next ?_ (F.args_enumerate_next_1 _))))
    show wpAny _ _ (field (.ref e) 2 >>= _) _ _ _
    refine wpAny_bind (wpAny_field hen rfl (x := .ref it) rfl ?_)
    refine wpAny_bind (wpAny_nextOf_tuple_end (I.ok.hd hc) hit hT (by simp; omega) fun h' y eb hy => ?_)
    obtain ⟨o, ho, hcl⟩ := hy
    refine wpAny_bind (wpAny_isInstance (T := "StopIteration") (b := true) ⟨o, ho, hcl⟩ isSubtype_stop ?_)
    exact wpAny_pure ⟨rfl, I.turned (t' := s.toks) (fun b o hb q => eb b o hb q) f0 f1 f3 f4 f5⟩
  self := fun A i s Q E st h => let ⟨⟨_, he⟩, _⟩ := st; wpAny_pyIter_enum he h
def iEnumT (K : PySem.W.Frag) (ta : TA) : TI := fun σ H R => ta σ H fun vs H1 => ∃ a xs, vs = [.ref a] ∧ SqT K H1 a xs ∧ R (ItT K a) H1
theorem pi_enumT {X : Cx} {e : Expr} {ta : TA} {p pos tpos : Pos} {elts : List Expr} {kk : Nat} (hg : Gl X "enumerate") (hm : X.mg "enumerate" = none) (ha : PA X [e] ta) (hs : starEach [e] X.env = [(false, eval e X.env)] := by rfl) :
    PI X (.Tuple elts kk tpos) (.Call (.Name "enumerate" p) [e] [] pos) (iEnumT X.K ta) := by
  refine ⟨fun pins s σ H R I h => ?_⟩
  refine Call_ (ld_blt I hg hm boot_enumerate (PyProof.Rows.callWith_type1 (thn (ha.run pos pins s σ H _ I h) fun us s1 ⟨vs, H1, I1, r1, q1⟩ => ?_) hs rfl))
  obtain ⟨a, xs, rfl, hsq, q⟩ := q1
  cases r1 with
  | cons r rr =>
    cases rr
    cases r
    obtain ⟨its, rv, pT, _⟩ := I1.tuple hsq
    refine enumT_call (show s1.heap.IsTuple a its.toArray from pT) fun h' hen hit hsz hk => wpAny_pyIter_enum hen ?_
    have I2 : Inv X pins σ H1 { s1 with heap := h' } := I1.kept (t' := s1.toks) hk
    refine ⟨s1.heap.objs.size + 1, [s1.heap.objs.size + 1, s1.heap.objs.size], _, _, H1, rfl, I2, turn_enumT a (s1.heap.objs.size + 1) s1.heap.objs.size, ⟨⟨.none, hen⟩, hit, Nat.succ_ne_self _⟩, fun b hb => ?_, q⟩
    have hle : s1.heap.objs.size ≤ b := by
      rcases (show b = s1.heap.objs.size + 1 ∨ b = s1.heap.objs.size by simpa using hb) with z | z
      · rw [z]; exact Nat.le_add_right _ _
      · rw [z]; exact Nat.le_refl _
    exact I1.fpOk hle (I1.hok.fresh hle)
end L2
namespace G
open PySem PySem.Spec PyProof.Rows L2
section
variable {K : PySem.W.Frag} {σ σ' : L2.St} {H : Hp} {F F1 F2 Fu : List Addr} {ta tb te : TE} {v u x y : V} {i j : Int} {α β : Type} {τ : Ty α} {υ : Ty β} {Q : VK} {D : Ends} {t1 t2 : TS} {g : TG} {ws : List Nat}
theorem w_iEnumT {ts : TA} {R : It → Hp → Prop} (h : ts σ H fun vs H1 => ∃ a xs, vs = [.ref a] ∧ SqT K H1 a xs ∧ R (ItT K a) H1) : iEnumT K ts σ H R := h
theorem l_enumT {tb : TS} {nx : L2.St → Hp → Prop} {xs : List α} {i1 i2 : Nat} (r : (yTupL τ).rep K H F v xs) (Pv : Nat → L2.St → Hp → Prop) (h0 : Pv 0 σ H) (hl : ∀ i σ' H', Pv i σ' H' → (yTupL τ).rep K H' F v xs)
    (hs : ∀ (i : Nat) (x : Int × α) (u : V) σ' H' H2, (Mi.enumF 0 xs)[i]? = some x → Chg [] H' H2 → τ.rep K H2 [] u x.2 → Pv i σ' H' → tb { D with nx := Pv (i + 1), ct := Pv (i + 1), bk := nx } ((σ'.set i1 (some (.int x.1))).set i2 (some u)) H2) (hd : ∀ σ' H', Pv (Mi.enumF 0 xs).length σ' H' → nx σ' H') :
    ∃ a xs, [v] = [.ref a] ∧ SqT K H a xs ∧ LoopG (ItT K a) (gTup K 2 (gCons (gName i1) (gCons (gName i2) gNil))) tb D nx σ H := by
  obtain ⟨a, vs, rfl, s, q⟩ := tupl_sq r
  refine ⟨a, vs, rfl, s, fun i m σ' H' => m = xs.length - i ∧ i ≤ xs.length ∧ Pv i σ' H', ⟨xs.length, by omega, Nat.zero_le _, h0⟩, ?_⟩
  rintro i m σ' H' ⟨rfl, hi, p⟩
  obtain ⟨a', vs', e', s', q'⟩ := tupl_sq (hl i σ' H' p)
  obtain rfl := V.ref.inj e'
  by_cases hlt : i < xs.length
  · obtain ⟨u, hu, ru⟩ := pr_get q' (List.getElem?_eq_getElem hlt)
    refine .inr ⟨⟨vs', u, s', hu⟩, Pv (i + 1), fun σ2 H2 p' => ⟨xs.length - (i + 1), by omega, rfl, hlt, p'⟩, fun x H2 y => ?_⟩
    obtain ⟨T, w, rfl, nT, rfl, y⟩ := y
    obtain rfl : w = u := Option.some.inj ((y _ s').symm.trans hu)
    have hx := enumF_at 0 xs i (List.getElem?_eq_getElem hlt)
    have c : Chg [] H' (upd H' T (.tup [.int (i : Nat), w])) := Chg.new nT
    have h := hs i _ w σ' H' _ hx c (Ty.ex ru c) p
    have e0 : (0 : Int) + (i : Int) = (i : Int) := Int.zero_add _
    rw [e0] at h
    exact ⟨T, _, rfl, .inl (.inl upd_same), rfl, _, _, rfl, _, _, rfl, rfl, h⟩
  · obtain rfl : i = xs.length := by omega
    exact .inl ⟨⟨vs', s', by rw [pr_len q']; exact Nat.le_refl _⟩, hd σ' H' (by rw [enumF_len]; exact p)⟩
end
end G

namespace G
open PySem PySem.Spec PyProof.Rows L2
section
variable {K : PySem.W.Frag} {σ σ' : L2.St} {H : Hp} {F F1 F2 Fu : List Addr} {ta tb te : TE} {v u x y : V} {i j : Int} {α β : Type} {τ : Ty α} {υ : Ty β} {Q : VK} {D : Ends} {t1 t2 : TS} {g : TG} {ws : List Nat}
theorem st_eq {t : TS} (e : σ = σ') (h : t D σ' H) : t D σ H := e ▸ h
theorem m_popAtG {xs : List α} {p : α × List α} (r : (yLsg τ).rep K H F v xs) (hm : Mi.popAt xs i = some p) (hb : xs.length ≤ Mi.big)
    (k : ∀ u H' Fi, Chg F H H' → τ.rep K H' Fi u p.1 → Sub Fi F → (yLsg τ).rep K H' F v p.2 → Q u H') : rPopAt v [.int i] H Q := by
  obtain ⟨l, vs, G, rfl, rfl, na, g, dm, q⟩ := r
  unfold Mi.popAt at hm
  obtain ⟨j, hj, hm⟩ := Mi.bnd hm
  obtain ⟨y, hy, hm⟩ := Mi.bnd hm
  obtain rfl := Option.some.inj hm
  obtain ⟨u, hu, Fi, ru, sb⟩ := pr_get q hy
  have c : Chg [l] H (upd H l (.lst (vs.eraseIdx j))) := Chg.wr g (fun z => z)
  have kp : ∀ {γ : Type} {ρ : Ty γ} {Fi : List Addr} {w : V} {e : γ}, ρ.rep K H Fi w e → l ∉ Fi → ρ.rep K (upd H l (.lst (vs.eraseIdx j))) Fi w e := fun rr hn => Ty.chg rr c fun b hb z => by
    rw [List.mem_singleton] at z; subst z; exact hn hb
  obtain ⟨h1, h2, h3, h4⟩ := ixN_seq (show L2.ixN vs.length i = some j by rw [pr_len q]; exact hj)
  have hb2 : vs.length ≤ 1000000 := by rw [pr_len q]; exact hb
  refine ⟨l, vs, i, j, u, rfl, rfl, g, by omega, by omega, h1, hu, k u _ Fi (c.mono fun b hb => by rw [List.mem_singleton] at hb; subst hb; exact List.mem_cons_self ..) (kp ru fun hp => na (sb l hp)) (fun b hb => List.mem_cons_of_mem _ (sb b hb)) ⟨l, _, G, rfl, rfl, na, upd_same, fun b hb => ?_, Paired.mapP (pr_erase q j) fun w e z => ?_⟩⟩
  · obtain ⟨o, ho, hf⟩ := dm b hb
    have hbl : b ≠ l := fun z => by subst z; exact na hb
    exact ⟨o, by rw [upd_ne hbl]; exact ho, hf⟩
  · obtain ⟨Fi, rr, s2⟩ := z
    exact ⟨Fi, kp rr fun hp => na (s2 l hp), s2⟩
end
end G
namespace G
open PySem PySem.Spec PyProof.Rows L2
theorem pe_fldk {X : Cx} {K : PySem.W.Frag} {e : Expr} {f : Str} {pos : Pos} {ta : TE} (he : PE X e ta) (hb : attributeBase e f X.env (eval e X.env) = eval e X.env) (hk : X.K = K := by rfl) : PE X (.Attribute e f pos) (tFld K ta f) := by
  subst hk; exact pe_fld he hb
end G

namespace G
open PySem PySem.Spec PyProof.Rows L2
def topS (i : Nat) : Stmt := PySem.Challenge.pw_fogfleet_k17_unmet_reports.main.body.getD i (.Pass ⟨0, 0, 0, 0⟩)
structure Cs (mg : Str → Option Value) : Prop where
  c_LAST_HOUR : ∃ t, mg "LAST_HOUR" = some (.int 24 t)
  c_LAST_SHIP : ∃ t, mg "LAST_SHIP" = some (.int 3 t)
  c_MOST_WEIGHT : ∃ t, mg "MOST_WEIGHT" = some (.int 99 t)
  c_PLACES : ∃ t, mg "PLACES" = some (.int 12 t)
abbrev nm_Report : List Str := ["ship", "hour", "zone", "weight", "inside"]
abbrev ty_Report : Tys (Int × Int × (List Int) × Int × Bool) := (sCons yInt (sCons yInt (sCons (yTupL yInt) (sCons yInt (sOne yBool)))))
abbrev kw_Report : List (Str × V) := [("weight", .int 1), ("inside", .bl true)]
section
variable {P : Program} {w : World} {K : PySem.W.Frag} {mg : Str → Option Value}
abbrev s_ascending : Stmt := topS 4
abbrev N_ascending : List Str := ["zone"]
theorem sc_ascending : FnScope ["zone"] ["zone"] (defScope s_ascending) := ⟨rfl, rfl, rfl, by decide +kernel, rfl, by decide +kernel, by decide +kernel⟩
def sp_ascending (K : PySem.W.Frag) : Sp := fun vs H Q _ => ∃ (v0 : V) (F0 : List Addr) (d0 : (List Int)) (r : (List Int)), vs = [v0] ∧ (yLst yInt).rep K H F0 v0 d0 ∧ Mi.m_ascending d0 = some r ∧ ∀ v H' F, Chg ([]) H H' → (yLst yInt).rep K H' F v r → (∀ a ∈ F, H a = none) → Q v H'
theorem ok_ascending (B : Bi mg) (CN : Cs mg) (D : Dfn K mg "ascending" s_ascending)  : Cal P w K mg "ascending" ["zone"] 1 (sp_ascending K) := by
  obtain ⟨f, fd, F, g⟩ := D.ex
  refine ⟨f, fd, g, F.kp, bindsF F (fun _ _ _ _ _ _ us hl => match us, hl with | [_], _ => rfl), fun base => F.ok sc_ascending (fun vs H Q E h => ?_) (fun cdv A outer s H0 vs Q E hr h => ?_)⟩
  · obtain ⟨v0, F0, d0, r, rfl, r0, hm, hQ⟩ := h; rfl
  ·
    obtain ⟨v0, F0, d0, r, rfl, r0, hm, hQ⟩ := h
    refine ⟨_, pss_cons (ps_ret (pe_callB (cl_sortedL (K := K)) (by rfl) B.sorted (by decide +kernel) (pa_cons (pv 0) pa_nil))) pss_nil, ?_⟩
    have c0 : Chg ([] : List Addr) H0 H0 := Chg.refl H0
    unfold Mi.m_ascending at hm
    refine q_ret ?_
    refine w_cb ?_
    refine w_args (va_cons (val_var rfl) va_nil) ?_
    refine w_sortedL r0 fun p1 H5 np4 c2 r3 => ?_
    have d6 : Dj F0 [p1] := Ty.nin r0 np4
    have n7 : ∀ a ∈ [p1], H0 a = none := one_fresh (c0.dom p1 np4)
    have r0 := Ty.ex r0 c2
    have c0 := c0.trans c2.none
    obtain rfl := Option.some.inj hm
    exact hQ _ _ _ c0 r3 n7 
abbrev s_is_zone : Stmt := topS 5
abbrev N_is_zone : List Str := ["zone", "size", "found", "place"]
theorem sc_is_zone : FnScope ["zone", "size", "found", "place"] ["zone", "size"] (defScope s_is_zone) := ⟨rfl, rfl, rfl, by decide +kernel, rfl, by decide +kernel, by decide +kernel⟩
def sp_is_zone (K : PySem.W.Frag) : Sp := fun vs H Q _ => (∃ (v0 : V) (F0 : List Addr) (d0 : (List Int)) (d1 : Int) (r : Bool), vs = [v0, (.int d1)] ∧ (yLst yInt).rep K H F0 v0 d0 ∧ Mi.m_is_zone_0 d0 d1 = some r ∧ ∀ H', Chg ([]) H H' → Q (.bl r) H') ∨ (∃ (v0 : V) (d0 : (List Int)) (d1 : Int) (r : Bool), vs = [v0, (.int d1)] ∧ (yTupL yInt).rep K H [] v0 d0 ∧ Mi.m_is_zone_1 d0 d1 = some r ∧ ∀ H', Chg ([]) H H' → Q (.bl r) H')
theorem ok_is_zone (B : Bi mg) (CN : Cs mg) (D : Dfn K mg "is_zone" s_is_zone)  : Cal P w K mg "is_zone" ["zone", "size"] 1 (sp_is_zone K) := by
  obtain ⟨f, fd, F, g⟩ := D.ex
  refine ⟨f, fd, g, F.kp, bindsF F (fun _ _ _ _ _ _ us hl => match us, hl with | [_, _], _ => rfl), fun base => F.ok sc_is_zone (fun vs H Q E h => ?_) (fun cdv A outer s H0 vs Q E hr h => ?_)⟩
  · rcases h with ⟨v0, F0, d0, d1, r, rfl, r0, hm, hQ⟩ | ⟨v0, d0, d1, r, rfl, r0, hm, hQ⟩
    all_goals rfl
  · rcases h with h | h
    ·
      obtain ⟨v0, F0, d0, d1, r, rfl, r0, hm, hQ⟩ := h
      refine ⟨_, pss_cons (ps_set (i := 2) sc_is_zone.nd rfl (.inl rfl) (pe_callTy0 (cl_set0 (w := w)) (by rfl) B.set (by decide +kernel)))
      (pss_cons (ps_for PassesOwn.never rfl (pi_list (pv 0)) (pg_name (i := 3) sc_is_zone.nd rfl (.inl rfl)) (pss_cons (ps_if (PW.pt (pw_or (pt_cmpR op_lt (pv 3) pe_int (nomark _)) (pw_or (pt_cmpR op_ge (pv 3) (pv 1) (nomark _)) (pw_or1 (pt_cmpR (op_in_s (w := w)) (pv 3) (pv 2) (by rfl)))))) (pss_cons (ps_ret pe_bl) pss_nil) (pss_nil))
      (pss_cons (ps_expr (pe_sadd (pv 2) (pa_cons (pv 3) pa_nil)))
      (pss_nil))))
      (pss_cons (ps_ret pe_bl) pss_nil)), ?_⟩
      have c0 : Chg ([] : List Addr) H0 H0 := Chg.refl H0
      unfold Mi.m_is_zone_0 at hm
      refine q_asg ?_
      refine w_cb ?_
      refine w_nil ?_
      refine w_set0 (K := K) (w := w) fun p1 H5 np4 c2 r3 => ?_
      have d6 : Dj F0 [p1] := Ty.nin r0 np4
      have n7 : ∀ a ∈ [p1], H0 a = none := one_fresh (c0.dom p1 np4)
      have r0 := Ty.ex r0 c2
      have c0 := c0.trans c2.none
      refine g_name (σ' := [some v0, some (.int d1), some (.ref p1), none]) rfl ?_
      refine q_for ?_
      refine w_iList ?_
      refine c_val (val_var rfl) ?_
      obtain ⟨e8, he8, hm⟩ := Mi.bnd hm
      refine l_lst r0 (fun i σ' H' => ∃ (s9 : (List Int)) (y10 : Option V), σ' = [some v0, some (.int d1), some (.ref p1), y10] ∧ Chg ([] : List Addr) H0 H' ∧ (yLst yInt).rep K H' F0 v0 d0 ∧ (ySet w).rep K H' [p1] (.ref p1) s9 ∧ Mi.forR (Mi.m_is_zone_0_b1 d1) s9 (List.drop i d0) = some e8) ⟨([] : List Int), none, rfl, c0, r0, r3, he8⟩ (fun i σ' H' hp => by obtain ⟨s9, y10, rfl, c0, r0, r3, _⟩ := hp; exact r0) (fun i13 x12 u14 σ' H' hx11 r15 hp => ?_) (fun σ' H' hp => ?_)
      ·
        obtain ⟨s9, y10, rfl, c0, r0, r3, hle8⟩ := hp
        obtain ⟨o16, hbe8, hore8⟩ := Mi.forR_go hle8 hx11
        unfold Mi.m_is_zone_0_b1 at hbe8
        obtain ⟨_, rfl⟩ := r15
        refine g_name (σ' := [some v0, some (.int d1), some (.ref p1), some (.int x12)]) rfl ?_
        refine q_if (ans_orB (ans_t (val_lt (val_var rfl) val_c)) (fun _ => (ans_orB (ans_t (val_ge (val_var rfl) (val_var rfl))) (fun _ => (ans_t (val_inS r3 (val_var rfl) (val_var rfl))))))) (fun hb => ?_) (fun hb => ?_)
        ·
          replace hbe8 := Mi.ifT hb hbe8
          refine q_ret ?_
          refine c_val val_c ?_
          obtain rfl := Option.some.inj hbe8
          obtain rfl := Mi.or_inl hore8
          obtain rfl := Option.some.inj (Mi.orR_inl hm)
          exact hQ _ c0 
        replace hbe8 := Mi.ifF hb hbe8
        refine w_fall ?_
        refine q_drop (w_sadd (c_val (val_var rfl) ⟨tyv_set r3, ?_⟩))
        refine w_args (va_cons (val_var rfl) va_nil) ?_
        obtain ⟨x19, hx19, hbe8⟩ := Mi.bnd hbe8
        refine m_sadd r3 hx19 fun H21 c20 r3 => ?_
        have r0 := Ty.chg r0 c20 d6
        have c0 := c0.join c20 (fun a h => .inr (n7 a h))
        refine w_nextJ ?_
        obtain rfl := Option.some.inj hbe8
        replace hore8 := Mi.or_inr hore8
        exact ⟨_, (some (.int x12)), rfl, c0, r0, r3, hore8⟩
      obtain ⟨s9, y10, rfl, c0, r0, r3, hle8⟩ := hp
      obtain rfl := Mi.forR_end hle8
      replace hm := Mi.orR_inr hm
      refine q_ret ?_
      refine c_val val_c ?_
      obtain rfl := Option.some.inj hm
      exact hQ _ c0 
    ·
      obtain ⟨v0, d0, d1, r, rfl, r0, hm, hQ⟩ := h
      refine ⟨_, pss_cons (ps_set (i := 2) sc_is_zone.nd rfl (.inl rfl) (pe_callTy0 (cl_set0 (w := w)) (by rfl) B.set (by decide +kernel)))
      (pss_cons (ps_for PassesOwn.never rfl (pi_tup (pv 0)) (pg_name (i := 3) sc_is_zone.nd rfl (.inl rfl)) (pss_cons (ps_if (PW.pt (pw_or (pt_cmpR op_lt (pv 3) pe_int (nomark _)) (pw_or (pt_cmpR op_ge (pv 3) (pv 1) (nomark _)) (pw_or1 (pt_cmpR (op_in_s (w := w)) (pv 3) (pv 2) (by rfl)))))) (pss_cons (ps_ret pe_bl) pss_nil) (pss_nil))
      (pss_cons (ps_expr (pe_sadd (pv 2) (pa_cons (pv 3) pa_nil)))
      (pss_nil))))
      (pss_cons (ps_ret pe_bl) pss_nil)), ?_⟩
      have c0 : Chg ([] : List Addr) H0 H0 := Chg.refl H0
      unfold Mi.m_is_zone_1 at hm
      refine q_asg ?_
      refine w_cb ?_
      refine w_nil ?_
      refine w_set0 (K := K) (w := w) fun p1 H5 np4 c2 r3 => ?_
      have n6 : ∀ a ∈ [p1], H0 a = none := one_fresh (c0.dom p1 np4)
      have r0 := Ty.fz r0 c2
      have c0 := c0.trans c2.none
      refine g_name (σ' := [some v0, some (.int d1), some (.ref p1), none]) rfl ?_
      refine q_for ?_
      refine w_iTup ?_
      refine c_val (val_var rfl) ?_
      obtain ⟨e7, he7, hm⟩ := Mi.bnd hm
      refine l_tup r0 (fun i σ' H' => ∃ (s8 : (List Int)) (y9 : Option V), σ' = [some v0, some (.int d1), some (.ref p1), y9] ∧ Chg ([] : List Addr) H0 H' ∧ (yTupL yInt).rep K H' [] v0 d0 ∧ (ySet w).rep K H' [p1] (.ref p1) s8 ∧ Mi.forR (Mi.m_is_zone_1_b1 d1) s8 (List.drop i d0) = some e7) ⟨([] : List Int), none, rfl, c0, r0, r3, he7⟩ (fun i σ' H' hp => by obtain ⟨s8, y9, rfl, c0, r0, r3, _⟩ := hp; exact r0) (fun i12 x11 u13 σ' H' hx10 r14 hp => ?_) (fun σ' H' hp => ?_)
      ·
        obtain ⟨s8, y9, rfl, c0, r0, r3, hle7⟩ := hp
        obtain ⟨o15, hbe7, hore7⟩ := Mi.forR_go hle7 hx10
        unfold Mi.m_is_zone_1_b1 at hbe7
        obtain ⟨_, rfl⟩ := r14
        refine g_name (σ' := [some v0, some (.int d1), some (.ref p1), some (.int x11)]) rfl ?_
        refine q_if (ans_orB (ans_t (val_lt (val_var rfl) val_c)) (fun _ => (ans_orB (ans_t (val_ge (val_var rfl) (val_var rfl))) (fun _ => (ans_t (val_inS r3 (val_var rfl) (val_var rfl))))))) (fun hb => ?_) (fun hb => ?_)
        ·
          replace hbe7 := Mi.ifT hb hbe7
          refine q_ret ?_
          refine c_val val_c ?_
          obtain rfl := Option.some.inj hbe7
          obtain rfl := Mi.or_inl hore7
          obtain rfl := Option.some.inj (Mi.orR_inl hm)
          exact hQ _ c0 
        replace hbe7 := Mi.ifF hb hbe7
        refine w_fall ?_
        refine q_drop (w_sadd (c_val (val_var rfl) ⟨tyv_set r3, ?_⟩))
        refine w_args (va_cons (val_var rfl) va_nil) ?_
        obtain ⟨x18, hx18, hbe7⟩ := Mi.bnd hbe7
        refine m_sadd r3 hx18 fun H20 c19 r3 => ?_
        have r0 := Ty.fz r0 c19
        have c0 := c0.join c19 (fun a h => .inr (n6 a h))
        refine w_nextJ ?_
        obtain rfl := Option.some.inj hbe7
        replace hore7 := Mi.or_inr hore7
        exact ⟨_, (some (.int x11)), rfl, c0, r0, r3, hore7⟩
      obtain ⟨s8, y9, rfl, c0, r0, r3, hle7⟩ := hp
      obtain rfl := Mi.forR_end hle7
      replace hm := Mi.orR_inr hm
      refine q_ret ?_
      refine c_val val_c ?_
      obtain rfl := Option.some.inj hm
      exact hQ _ c0 
abbrev s_Report_init : Stmt := inClass (topS 11) 0
abbrev N_Report_init : List Str := ["self", "ship", "hour", "zone", "weight", "inside"]
theorem sc_Report_init : FnScope ["self", "ship", "hour", "zone", "weight", "inside"] ["self", "ship", "hour", "zone", "weight", "inside"] (defScope s_Report_init) := ⟨rfl, rfl, rfl, by decide +kernel, rfl, by decide +kernel, by decide +kernel⟩
def sp_Report_init (K : PySem.W.Frag) (C_Report : Addr) : Sp := fun vs H Q _ => ∃ (x0 dx0 : Addr) (d1 : Int) (d2 : Int) (v3 : V) (F3 : List Addr) (d3 : (List Int)) (d4 : Int) (d5 : Bool) (r : (Int × Int × (List Int) × Int × Bool)), vs = [.ref x0, (.int d1), (.int d2), v3, (.int d4), (.bl d5)] ∧ (yPart C_Report dx0 []).rep K H [x0] (.ref x0) [] ∧ (yLst yInt).rep K H F3 v3 d3 ∧ Dj [x0] F3 ∧ Mi.m_Report_init d1 d2 d3 d4 d5 = some r ∧ ∀ H', Chg [x0] H H' → (yObj C_Report nm_Report ty_Report).rep K H' [] (.ref x0) r → Q .non H'
theorem ok_Report_init (B : Bi mg) (CN : Cs mg) {C_Report : Addr} (T_Report : Tx K mg C_Report "Report" nm_Report) (C_ascending : Cal P w K mg "ascending" ["zone"] 1 (sp_ascending K)) (C_is_zone : Cal P w K mg "is_zone" ["zone", "size"] 1 (sp_is_zone K)) (D : DfnI K C_Report "Report.__init__" s_Report_init kw_Report) : CalI P w K mg C_Report "Report.__init__" s_Report_init kw_Report ["self", "ship", "hour", "zone", "weight", "inside"] 2 (sp_Report_init K C_Report) := by
  obtain ⟨f, fd, F, g⟩ := D.ex
  refine ⟨f, fd, g, F, fun base => F.ok sc_Report_init (fun vs H Q E h => ?_) (fun cdv A outer s H0 vs Q E hr h => ?_)⟩
  · obtain ⟨x0, dx0, d1, d2, v3, F3, d3, d4, d5, r, rfl, rs, r3, dd0_3, hm, hQ⟩ := h; rfl
  ·
    obtain ⟨x0, dx0, d1, d2, v3, F3, d3, d4, d5, r, rfl, rs, r3, dd0_3, hm, hQ⟩ := h
    refine ⟨_, pss_cons (ps_if (PW.pt (pw_or (pt_cmpR op_lt (pv 1) pe_int (nomark _)) (pw_or1 (pt_cmpR op_gt (pv 1) (pe_glob (v := .int 3) (by rfl) CN.c_LAST_SHIP.choose_spec ⟨_, rfl⟩) (nomark _))))) (pss_cons ps_never pss_nil) (pss_nil))
      (pss_cons (ps_if (PW.pt (pw_or (pt_cmpR op_lt (pv 2) pe_int (nomark _)) (pw_or1 (pt_cmpR op_gt (pv 2) (pe_glob (v := .int 24) (by rfl) CN.c_LAST_HOUR.choose_spec ⟨_, rfl⟩) (nomark _))))) (pss_cons ps_never pss_nil) (pss_nil))
      (pss_cons (ps_if (pt_not (pt_val (pe_cc C_is_zone hr (pa_cons (pv 3) (pa_cons (pe_glob (v := .int 12) (by rfl) CN.c_PLACES.choose_spec ⟨_, rfl⟩) pa_nil))))) (pss_cons ps_never pss_nil) (pss_nil))
      (pss_cons (ps_if (PW.pt (pw_or (pt_cmpR op_lt (pv 4) pe_int (nomark _)) (pw_or1 (pt_cmpR op_gt (pv 4) (pe_glob (v := .int 99) (by rfl) CN.c_MOST_WEIGHT.choose_spec ⟨_, rfl⟩) (nomark _))))) (pss_cons ps_never pss_nil) (pss_nil))
      (pss_cons (ps_fld (pv 0) (pv 1) rfl)
      (pss_cons (ps_fld (pv 0) (pv 2) rfl)
      (pss_cons (ps_fld (pv 0) (pe_callTy (cl_tuple (K := K)) (by rfl) B.tuple (by decide +kernel) (pa_cons (pe_cc C_ascending hr (pa_cons (pv 3) pa_nil)) pa_nil)) rfl)
      (pss_cons (ps_fld (pv 0) (pv 4) rfl)
      (pss_cons (ps_fld (pv 0) (pv 5) rfl)
      (pss_nil))))))))), ?_⟩
    have c0 : Chg ([x0]) H0 H0 := Chg.refl H0
    unfold Mi.m_Report_init at hm
    refine q_if (ans_orB (ans_t (val_lt (val_var rfl) val_c)) (fun _ => (ans_t (val_gt (val_var rfl) val_c)))) (fun hb => ?_) (fun hb => ?_)
    ·
      replace hm := Mi.ifT hb hm
      cases hm
    replace hm := Mi.ifF hb hm
    refine w_fall ?_
    refine q_if (ans_orB (ans_t (val_lt (val_var rfl) val_c)) (fun _ => (ans_t (val_gt (val_var rfl) val_c)))) (fun hb => ?_) (fun hb => ?_)
    ·
      replace hm := Mi.ifT hb hm
      cases hm
    replace hm := Mi.ifF hb hm
    refine w_fall ?_
    refine q_ifS ?_
    refine w_not ?_
    refine w_B ?_
    refine w_call ?_
    refine w_args (va_cons (val_var rfl) (va_cons val_c va_nil)) ?_
    obtain ⟨q3, hq3, hm⟩ := Mi.bnd hm
    refine Or.inl ⟨v3, F3, d3, (12 : Int), q3, rfl, r3, hq3, fun H5 c4  => ?_⟩
    have rs := Ty.ex rs c4
    have r3 := Ty.ex r3 c4
    have c0 := c0.trans c4.none
    refine ⟨_, rfl, ?_⟩
    refine c_if (fun hb => ?_) (fun hb => ?_)
    ·
      replace hm := Mi.ifT hb hm
      cases hm
    replace hm := Mi.ifF hb hm
    refine w_fall ?_
    refine q_if (ans_orB (ans_t (val_lt (val_var rfl) val_c)) (fun _ => (ans_t (val_gt (val_var rfl) val_c)))) (fun hb => ?_) (fun hb => ?_)
    ·
      replace hm := Mi.ifT hb hm
      cases hm
    replace hm := Mi.ifF hb hm
    refine w_fall ?_
    refine q_fld ?_
    refine c_val (val_var rfl) ?_
    refine c_val (val_var rfl) ?_
    refine m_fldP rs T_Report.cls (T_Report.na "ship" (by decide +kernel)) (by decide +kernel) rfl (by decide) rfl fun H8 c7 rs => ?_
    have r3 := Ty.chg r3 c7 dd0_3.symm
    have c0 := c0.join c7 (fun a h => .inl (h))
    have rs : (yPart C_Report dx0 (["ship"] : List Str)).rep K _ [x0] (.ref x0) [(.int d1)] := rs
    refine q_fld ?_
    refine c_val (val_var rfl) ?_
    refine c_val (val_var rfl) ?_
    refine m_fldP rs T_Report.cls (T_Report.na "hour" (by decide +kernel)) (by decide +kernel) rfl (by decide) rfl fun H10 c9 rs => ?_
    have r3 := Ty.chg r3 c9 dd0_3.symm
    have c0 := c0.join c9 (fun a h => .inl (h))
    have rs : (yPart C_Report dx0 (["ship", "hour"] : List Str)).rep K _ [x0] (.ref x0) [(.int d1), (.int d2)] := rs
    refine q_fld ?_
    refine w_cb ?_
    refine w_cons ?_
    refine w_call ?_
    refine w_args (va_cons (val_var rfl) va_nil) ?_
    obtain ⟨q11, hq11, hm⟩ := Mi.bnd hm
    refine ⟨v3, F3, d3, q11, rfl, r3, hq11, fun v14 H13 F16 c12 r15 fr17  => ?_⟩
    have d18 : Dj [x0] F16 := Ty.fresh rs fr17
    have d19 : Dj F3 F16 := Ty.fresh r3 fr17
    have n20 : ∀ a ∈ F16, H0 a = none := fun a h => c0.dom a (fr17 a h)
    have rs := Ty.ex rs c12
    have r3 := Ty.ex r3 c12
    have c0 := c0.trans c12.none
    refine w_nil ?_
    refine w_tupleL r15 fun v21 H22 c23 r24 => ?_
    have rs := Ty.ex rs c23
    have r3 := Ty.ex r3 c23
    have r15 := Ty.ex r15 c23
    have c0 := c0.trans c23.none
    refine c_val (val_var rfl) ?_
    refine m_fldP rs T_Report.cls (T_Report.na "zone" (by decide +kernel)) (by decide +kernel) rfl (by decide) rfl fun H26 c25 rs => ?_
    have r3 := Ty.chg r3 c25 dd0_3.symm
    have r24 := Ty.fz r24 c25
    have c0 := c0.join c25 (fun a h => .inl (h))
    have rs : (yPart C_Report dx0 (["ship", "hour", "zone"] : List Str)).rep K _ [x0] (.ref x0) [(.int d1), (.int d2), v21] := rs
    refine q_fld ?_
    refine c_val (val_var rfl) ?_
    refine c_val (val_var rfl) ?_
    refine m_fldP rs T_Report.cls (T_Report.na "weight" (by decide +kernel)) (by decide +kernel) rfl (by decide) rfl fun H28 c27 rs => ?_
    have r3 := Ty.chg r3 c27 dd0_3.symm
    have r24 := Ty.fz r24 c27
    have c0 := c0.join c27 (fun a h => .inl (h))
    have rs : (yPart C_Report dx0 (["ship", "hour", "zone", "weight"] : List Str)).rep K _ [x0] (.ref x0) [(.int d1), (.int d2), v21, (.int d4)] := rs
    refine q_fld ?_
    refine c_val (val_var rfl) ?_
    refine c_val (val_var rfl) ?_
    refine m_fldE (ts := ty_Report) (d := (d1, d2, q11, d4, d5)) rs T_Report.cls (T_Report.na "inside" (by decide +kernel)) (by decide +kernel) rfl (by decide) rfl ⟨_, _, _, _, rfl, rfl, yInt_i, ⟨_, _, _, _, rfl, rfl, yInt_i, ⟨_, _, _, _, rfl, rfl, r24, ⟨_, _, _, _, rfl, rfl, yInt_i, ⟨_, rfl, yBool_i⟩⟩⟩⟩⟩ fun H30 c29 rs => ?_
    have r3 := Ty.chg r3 c29 dd0_3.symm
    have r24 := Ty.fz r24 c29
    have c0 := c0.join c29 (fun a h => .inl (h))
    refine w_next ?_
    obtain rfl := Option.some.inj hm
    exact hQ _ c0 rs
abbrev s_Report_allows : Stmt := inClass (topS 11) 1
abbrev N_Report_allows : List Str := ["self", "place"]
theorem sc_Report_allows : FnScope ["self", "place"] ["self", "place"] (defScope s_Report_allows) := ⟨rfl, rfl, rfl, by decide +kernel, rfl, by decide +kernel, by decide +kernel⟩
def sp_Report_allows (K : PySem.W.Frag) (C_Report : Addr) : Sp := fun vs H Q _ => ∃ (v0 : V) (d0 : (Int × Int × (List Int) × Int × Bool)) (d1 : Int) (r : Bool), vs = [v0, (.int d1)] ∧ (yObj C_Report nm_Report ty_Report).rep K H [] v0 d0 ∧ Mi.m_Report_allows d0 d1 = some r ∧ ∀ H', Chg ([]) H H' → Q (.bl r) H'
theorem ok_Report_allows (B : Bi mg) (CN : Cs mg) {C_Report : Addr} (T_Report : Tx K mg C_Report "Report" nm_Report) (D : DfnM K C_Report "allows" "Report.allows" s_Report_allows) : CalM P w K mg C_Report "allows" ["self", "place"] 1 (sp_Report_allows K C_Report) := by
  obtain ⟨f, fd, F, g⟩ := D.ex
  refine ⟨f, fd, g, bindsF F (fun _ _ _ _ _ _ us hl => match us, hl with | [_, _], _ => rfl), fun base => F.ok sc_Report_allows (fun vs H Q E h => ?_) (fun cdv A outer s H0 vs Q E hr h => ?_)⟩
  · obtain ⟨v0, d0, d1, r, rfl, r0, hm, hQ⟩ := h; rfl
  ·
    obtain ⟨v0, d0, d1, r, rfl, r0, hm, hQ⟩ := h
    refine ⟨_, pss_cons (ps_ret (pe_cmpR op_eq (pe_cmpR (op_in_q (K := K)) (pv 1) (pe_fldk (K := K) (pv 0) (by rfl)) (by rfl)) (pe_fldk (K := K) (pv 0) (by rfl)) (nomark _))) pss_nil, ?_⟩
    have c0 : Chg ([] : List Addr) H0 H0 := Chg.refl H0
    unfold Mi.m_Report_allows at hm
    refine q_ret ?_
    obtain ⟨u1, r2, kx3, ku4⟩ := fld_obj (n := 2) (f := "zone") (atS (atS at0)) (by decide +kernel) rfl T_Report.cls (T_Report.na "zone" (by decide +kernel)) r0
    obtain ⟨u5, r6, kx7, ku8⟩ := fld_obj (n := 4) (f := "inside") (atS (atS (atS (atS at1)))) (by decide +kernel) rfl T_Report.cls (T_Report.na "inside" (by decide +kernel)) r0
    obtain ⟨_, rfl⟩ := r6
    refine c_val (val_eqB (val_inT r2 (val_var rfl) (ku4 (val_var rfl))) (ku8 (val_var rfl))) ?_
    obtain rfl := Option.some.inj hm
    exact hQ _ c0 
abbrev s_unmet : Stmt := topS 12
abbrev N_unmet : List Str := ["reports", "ship", "driving", "found", "index", "report"]
theorem sc_unmet : FnScope ["reports", "ship", "driving", "found", "index", "report"] ["reports", "ship", "driving"] (defScope s_unmet) := ⟨rfl, rfl, rfl, by decide +kernel, rfl, by decide +kernel, by decide +kernel⟩
def sp_unmet (K : PySem.W.Frag) (C_Report : Addr) : Sp := fun vs H Q _ => (∃ (v0 : V) (F0 : List Addr) (d0 : (List (Int × Int × (List Int) × Int × Bool))) (d1 : Int) (v2 : V) (F2 : List Addr) (d2 : (List Int)) (r : (List Int)), vs = [v0, (.int d1), v2] ∧ (yLst (yObj C_Report nm_Report ty_Report)).rep K H F0 v0 d0 ∧ (yLst yInt).rep K H F2 v2 d2 ∧ Mi.m_unmet_0 d0 d1 d2 = some r ∧ ∀ v H' F, Chg ([]) H H' → (yLst yInt).rep K H' F v r → (∀ a ∈ F, H a = none) → Q v H') ∨ (∃ (v0 : V) (d0 : (List (Int × Int × (List Int) × Int × Bool))) (d1 : Int) (v2 : V) (F2 : List Addr) (d2 : (List Int)) (r : (List Int)), vs = [v0, (.int d1), v2] ∧ (yTupL (yObj C_Report nm_Report ty_Report)).rep K H [] v0 d0 ∧ (yLst yInt).rep K H F2 v2 d2 ∧ Mi.m_unmet_1 d0 d1 d2 = some r ∧ ∀ v H' F, Chg ([]) H H' → (yLst yInt).rep K H' F v r → (∀ a ∈ F, H a = none) → Q v H')
theorem ok_unmet (B : Bi mg) (CN : Cs mg) (D : Dfn K mg "unmet" s_unmet) {C_Report : Addr} (T_Report : Tx K mg C_Report "Report" nm_Report) (M_Report_allows : CalM P w K mg C_Report "allows" ["self", "place"] 1 (sp_Report_allows K C_Report)) : Cal P w K mg "unmet" ["reports", "ship", "driving"] 2 (sp_unmet K C_Report) := by
  obtain ⟨f, fd, F, g⟩ := D.ex
  refine ⟨f, fd, g, F.kp, bindsF F (fun _ _ _ _ _ _ us hl => match us, hl with | [_, _, _], _ => rfl), fun base => F.ok sc_unmet (fun vs H Q E h => ?_) (fun cdv A outer s H0 vs Q E hr h => ?_)⟩
  · rcases h with ⟨v0, F0, d0, d1, v2, F2, d2, r, rfl, r0, r2, hm, hQ⟩ | ⟨v0, d0, d1, v2, F2, d2, r, rfl, r0, r2, hm, hQ⟩
    all_goals rfl
  · rcases h with h | h
    ·
      obtain ⟨v0, F0, d0, d1, v2, F2, d2, r, rfl, r0, r2, hm, hQ⟩ := h
      obtain ⟨fM_Report_allows, fdM_Report_allows, hM_Report_allows, bM_Report_allows, OM_Report_allows⟩ := M_Report_allows.ex
      refine ⟨_, pss_cons (ps_set (i := 3) sc_unmet.nd rfl (.inl rfl) (pe_lst pa_nil))
      (pss_cons (ps_for PassesOwn.never rfl (pi_enum (by rfl) B.enumerate (pa_cons (pv 0) pa_nil)) (pg_tup rfl (pgs_cons (pg_name (i := 4) sc_unmet.nd rfl (.inl rfl)) (pgs_cons (pg_name (i := 5) sc_unmet.nd rfl (.inl rfl)) pgs_nil))) (pss_cons (ps_if (PW.pt (pw_or (pt_cmpR op_ne (pe_fldk (K := K) (pv 5) (by rfl)) (pv 1) (nomark _)) (pw_or1 (pt_cmpR op_ge (pe_fldk (K := K) (pv 5) (by rfl)) (pe_callB (cl_len (K := K)) (by rfl) B.len PySem.boot_len (pa_cons (pv 2) pa_nil)) (nomark _))))) (pss_cons ps_continue pss_nil) (pss_nil))
      (pss_cons (ps_if (pt_not (pt_val (pe_meth (pv 5) T_Report.cls hM_Report_allows (OM_Report_allows base) (hr.mono (by decide)) (fun s us _ hl => by rw [List.append_nil] at hl ⊢; exact bM_Report_allows s us hl) .nil pass0 (pa_cons (pe_ix (ix_l (K := K)) (pv 2) (pe_fldk (K := K) (pv 5) (by rfl)) (fun _ _ => rfl)) pa_nil)))) (pss_cons (ps_expr (pe_bm PySem.F.plainAttrs_list PySem.F.slot_list_append PySem.F.type_list_append mt_append (pv 3) (pa_cons (pv 4) pa_nil)))
      (pss_nil)) (pss_nil))
      (pss_nil))))
      (pss_cons (ps_ret (pv 3)) pss_nil)), ?_⟩
      have c0 : Chg ([] : List Addr) H0 H0 := Chg.refl H0
      unfold Mi.m_unmet_0 at hm
      refine q_asg ?_
      refine w_lst ?_
      refine w_args va_nil ?_
      refine e_lst (K := K) (τ := yInt) (by exact Nat.le_of_ble_eq_true rfl) .nil fun p1 H5 np4 c2 r3 => ?_
      have d6 : Dj F0 [p1] := Ty.nin r0 np4
      have d7 : Dj F2 [p1] := Ty.nin r2 np4
      have n8 : ∀ a ∈ [p1], H0 a = none := one_fresh (c0.dom p1 np4)
      have r0 := Ty.ex r0 c2
      have r2 := Ty.ex r2 c2
      have c0 := c0.trans c2.none
      refine g_name (σ' := [some v0, some (.int d1), some v2, some (.ref p1), none, none]) rfl ?_
      refine q_for ?_
      refine w_iEnum ?_
      refine w_args (va_cons (val_var rfl) va_nil) ?_
      obtain ⟨e9, he9, hm⟩ := Mi.bnd hm
      refine l_enum r0 (fun i σ' H' => ∃ (s10 : (List Int)) (y11 : Option V) (y12 : Option V), σ' = [some v0, some (.int d1), some v2, some (.ref p1), y11, y12] ∧ Chg ([] : List Addr) H0 H' ∧ (yLst (yObj C_Report nm_Report ty_Report)).rep K H' F0 v0 d0 ∧ (yLst yInt).rep K H' F2 v2 d2 ∧ (yLst yInt).rep K H' [p1] (.ref p1) s10 ∧ Mi.forN (Mi.m_unmet_0_b1 d1 d2) s10 (List.drop i (Mi.enumF 0 d0)) = some e9) ⟨([] : (List Int)), none, none, rfl, c0, r0, r2, r3, he9⟩ (fun i σ' H' hp => by obtain ⟨s10, y11, y12, rfl, c0, r0, r2, r3, _⟩ := hp; exact r0) (fun i15 x14 u16 σ' H' H19 hx13 c18 r17 hp => ?_) (fun σ' H' hp => ?_)
      ·
        obtain ⟨s10, y11, y12, rfl, c0, r0, r2, r3, hle9⟩ := hp
        obtain ⟨_, hbe9, hle9⟩ := Mi.forN_go hle9 hx13
        unfold Mi.m_unmet_0_b1 at hbe9
        have r0 := Ty.ex r0 c18
        have r2 := Ty.ex r2 c18
        have r3 := Ty.ex r3 c18
        have c0 := c0.trans c18.none
        refine st_eq (σ' := [some v0, some (.int d1), some v2, some (.ref p1), some (.int x14.1), some u16]) rfl ?_
        obtain ⟨u20, r21, kx22, ku23⟩ := fld_obj (n := 0) (f := "ship") at0 (by decide +kernel) rfl T_Report.cls (T_Report.na "ship" (by decide +kernel)) r17
        obtain ⟨_, rfl⟩ := r21
        obtain ⟨u25, r26, kx27, ku28⟩ := fld_obj (n := 1) (f := "hour") (atS at0) (by decide +kernel) rfl T_Report.cls (T_Report.na "hour" (by decide +kernel)) r17
        obtain ⟨_, rfl⟩ := r26
        refine q_if (ans_orB (ans_t (val_neI (ku23 (val_var rfl)) (val_var rfl))) (fun _ => (ans_t (val_ge (ku28 (val_var rfl)) (val_lenL r2 (val_var rfl)))))) (fun hb => ?_) (fun hb => ?_)
        ·
          replace hbe9 := Mi.ifT hb hbe9
          refine q_cont ?_
          obtain rfl := Option.some.inj hbe9
          exact ⟨_, (some (.int x14.1)), (some u16), rfl, c0, r0, r2, r3, hle9⟩
        replace hbe9 := Mi.ifF hb hbe9
        refine w_fall ?_
        obtain ⟨s29, hs29, hbe9⟩ := Mi.bnd hbe9
        refine s_join (R := fun σ' H' => σ' = [some v0, some (.int d1), some v2, some (.ref p1), some (.int x14.1), some u16] ∧ Chg ([] : List Addr) H0 H' ∧ (yLst (yObj C_Report nm_Report ty_Report)).rep K H' F0 v0 d0 ∧ (yLst yInt).rep K H' F2 v2 d2 ∧ (yLst yInt).rep K H' [p1] (.ref p1) s29 ∧ (yObj C_Report nm_Report ty_Report).rep K H' [] u16 x14.2) (fun nx kx => ?_) (fun σ' H' hj => ?_)
        ·
          refine w_ifS ?_
          refine w_not ?_
          refine w_B ?_
          refine w_meth ?_
          refine c_val (val_var rfl) ?_
          refine meth_obj r17 (by decide +kernel) ?_
          obtain ⟨u30, r31, kx32, ku33⟩ := fld_obj (n := 1) (f := "hour") (atS at0) (by decide +kernel) rfl T_Report.cls (T_Report.na "hour" (by decide +kernel)) r17
          obtain ⟨_, rfl⟩ := r31
          obtain ⟨x34, hx34, hs29⟩ := Mi.bnd hs29
          refine w_args (va_cons (itm_LI r2 hx34 (val_var rfl) (ku33 (val_var rfl))) va_nil) ?_
          obtain ⟨q35, hq35, hs29⟩ := Mi.bnd hs29
          refine ⟨u16, x14.2, x34, q35, rfl, r17, hq35, fun H37 c36  => ?_⟩
          have r0 := Ty.ex r0 c36
          have r2 := Ty.ex r2 c36
          have r3 := Ty.ex r3 c36
          have r17 := Ty.fz r17 c36
          have c0 := c0.trans c36.none
          refine ⟨_, rfl, ?_⟩
          refine c_if (fun hb => ?_) (fun hb => ?_)
          ·
            replace hs29 := Mi.ifT hb hs29
            refine q_drop (w_bm (c_val (val_var rfl) ⟨tyv_lst r3, ?_⟩))
            refine w_args (va_cons (val_var rfl) va_nil) ?_
            obtain ⟨x38, hx38, hs29⟩ := Mi.bnd hs29
            refine m_app r3 yInt_i hx38 fun H40 c39 r3 => ?_
            have r0 := Ty.chg r0 c39 d6
            have r2 := Ty.chg r2 c39 d7
            have r17 := Ty.fz r17 c39
            have c0 := c0.join c39 (fun a h => .inr (n8 a h))
            refine w_nextJ ?_
            obtain rfl := Option.some.inj hs29
            exact kx _ _ ⟨rfl, c0, r0, r2, r3, r17⟩
          ·
            replace hs29 := Mi.ifF hb hs29
            refine w_nextJ ?_
            obtain rfl := Option.some.inj hs29
            exact kx _ _ ⟨rfl, c0, r0, r2, r3, r17⟩
        obtain ⟨rfl, c0, r0, r2, r3, r17⟩ := hj
        refine w_nextJ ?_
        obtain rfl := Option.some.inj hbe9
        exact ⟨_, (some (.int x14.1)), (some u16), rfl, c0, r0, r2, r3, hle9⟩
      obtain ⟨s10, y11, y12, rfl, c0, r0, r2, r3, hle9⟩ := hp
      obtain rfl := Mi.forN_end hle9
      refine q_ret ?_
      refine c_val (val_var rfl) ?_
      obtain rfl := Option.some.inj hm
      exact hQ _ _ _ c0 r3 n8 
    ·
      obtain ⟨v0, d0, d1, v2, F2, d2, r, rfl, r0, r2, hm, hQ⟩ := h
      obtain ⟨fM_Report_allows, fdM_Report_allows, hM_Report_allows, bM_Report_allows, OM_Report_allows⟩ := M_Report_allows.ex
      refine ⟨_, pss_cons (ps_set (i := 3) sc_unmet.nd rfl (.inl rfl) (pe_lst pa_nil))
      (pss_cons (ps_for PassesOwn.never rfl (pi_enumT (by rfl) B.enumerate (pa_cons (pv 0) pa_nil)) (pg_tup rfl (pgs_cons (pg_name (i := 4) sc_unmet.nd rfl (.inl rfl)) (pgs_cons (pg_name (i := 5) sc_unmet.nd rfl (.inl rfl)) pgs_nil))) (pss_cons (ps_if (PW.pt (pw_or (pt_cmpR op_ne (pe_fldk (K := K) (pv 5) (by rfl)) (pv 1) (nomark _)) (pw_or1 (pt_cmpR op_ge (pe_fldk (K := K) (pv 5) (by rfl)) (pe_callB (cl_len (K := K)) (by rfl) B.len PySem.boot_len (pa_cons (pv 2) pa_nil)) (nomark _))))) (pss_cons ps_continue pss_nil) (pss_nil))
      (pss_cons (ps_if (pt_not (pt_val (pe_meth (pv 5) T_Report.cls hM_Report_allows (OM_Report_allows base) (hr.mono (by decide)) (fun s us _ hl => by rw [List.append_nil] at hl ⊢; exact bM_Report_allows s us hl) .nil pass0 (pa_cons (pe_ix (ix_l (K := K)) (pv 2) (pe_fldk (K := K) (pv 5) (by rfl)) (fun _ _ => rfl)) pa_nil)))) (pss_cons (ps_expr (pe_bm PySem.F.plainAttrs_list PySem.F.slot_list_append PySem.F.type_list_append mt_append (pv 3) (pa_cons (pv 4) pa_nil)))
      (pss_nil)) (pss_nil))
      (pss_nil))))
      (pss_cons (ps_ret (pv 3)) pss_nil)), ?_⟩
      have c0 : Chg ([] : List Addr) H0 H0 := Chg.refl H0
      unfold Mi.m_unmet_1 at hm
      refine q_asg ?_
      refine w_lst ?_
      refine w_args va_nil ?_
      refine e_lst (K := K) (τ := yInt) (by exact Nat.le_of_ble_eq_true rfl) .nil fun p1 H5 np4 c2 r3 => ?_
      have d6 : Dj F2 [p1] := Ty.nin r2 np4
      have n7 : ∀ a ∈ [p1], H0 a = none := one_fresh (c0.dom p1 np4)
      have r0 := Ty.fz r0 c2
      have r2 := Ty.ex r2 c2
      have c0 := c0.trans c2.none
      refine g_name (σ' := [some v0, some (.int d1), some v2, some (.ref p1), none, none]) rfl ?_
      refine q_for ?_
      refine w_iEnumT ?_
      refine w_args (va_cons (val_var rfl) va_nil) ?_
      obtain ⟨e8, he8, hm⟩ := Mi.bnd hm
      refine l_enumT r0 (fun i σ' H' => ∃ (s9 : (List Int)) (y10 : Option V) (y11 : Option V), σ' = [some v0, some (.int d1), some v2, some (.ref p1), y10, y11] ∧ Chg ([] : List Addr) H0 H' ∧ (yTupL (yObj C_Report nm_Report ty_Report)).rep K H' [] v0 d0 ∧ (yLst yInt).rep K H' F2 v2 d2 ∧ (yLst yInt).rep K H' [p1] (.ref p1) s9 ∧ Mi.forN (Mi.m_unmet_1_b1 d1 d2) s9 (List.drop i (Mi.enumF 0 d0)) = some e8) ⟨([] : (List Int)), none, none, rfl, c0, r0, r2, r3, he8⟩ (fun i σ' H' hp => by obtain ⟨s9, y10, y11, rfl, c0, r0, r2, r3, _⟩ := hp; exact r0) (fun i14 x13 u15 σ' H' H18 hx12 c17 r16 hp => ?_) (fun σ' H' hp => ?_)
      ·
        obtain ⟨s9, y10, y11, rfl, c0, r0, r2, r3, hle8⟩ := hp
        obtain ⟨_, hbe8, hle8⟩ := Mi.forN_go hle8 hx12
        unfold Mi.m_unmet_1_b1 at hbe8
        have r0 := Ty.fz r0 c17
        have r2 := Ty.ex r2 c17
        have r3 := Ty.ex r3 c17
        have c0 := c0.trans c17.none
        refine st_eq (σ' := [some v0, some (.int d1), some v2, some (.ref p1), some (.int x13.1), some u15]) rfl ?_
        obtain ⟨u19, r20, kx21, ku22⟩ := fld_obj (n := 0) (f := "ship") at0 (by decide +kernel) rfl T_Report.cls (T_Report.na "ship" (by decide +kernel)) r16
        obtain ⟨_, rfl⟩ := r20
        obtain ⟨u24, r25, kx26, ku27⟩ := fld_obj (n := 1) (f := "hour") (atS at0) (by decide +kernel) rfl T_Report.cls (T_Report.na "hour" (by decide +kernel)) r16
        obtain ⟨_, rfl⟩ := r25
        refine q_if (ans_orB (ans_t (val_neI (ku22 (val_var rfl)) (val_var rfl))) (fun _ => (ans_t (val_ge (ku27 (val_var rfl)) (val_lenL r2 (val_var rfl)))))) (fun hb => ?_) (fun hb => ?_)
        ·
          replace hbe8 := Mi.ifT hb hbe8
          refine q_cont ?_
          obtain rfl := Option.some.inj hbe8
          exact ⟨_, (some (.int x13.1)), (some u15), rfl, c0, r0, r2, r3, hle8⟩
        replace hbe8 := Mi.ifF hb hbe8
        refine w_fall ?_
        obtain ⟨s28, hs28, hbe8⟩ := Mi.bnd hbe8
        refine s_join (R := fun σ' H' => σ' = [some v0, some (.int d1), some v2, some (.ref p1), some (.int x13.1), some u15] ∧ Chg ([] : List Addr) H0 H' ∧ (yTupL (yObj C_Report nm_Report ty_Report)).rep K H' [] v0 d0 ∧ (yLst yInt).rep K H' F2 v2 d2 ∧ (yLst yInt).rep K H' [p1] (.ref p1) s28 ∧ (yObj C_Report nm_Report ty_Report).rep K H' [] u15 x13.2) (fun nx kx => ?_) (fun σ' H' hj => ?_)
        ·
          refine w_ifS ?_
          refine w_not ?_
          refine w_B ?_
          refine w_meth ?_
          refine c_val (val_var rfl) ?_
          refine meth_obj r16 (by decide +kernel) ?_
          obtain ⟨u29, r30, kx31, ku32⟩ := fld_obj (n := 1) (f := "hour") (atS at0) (by decide +kernel) rfl T_Report.cls (T_Report.na "hour" (by decide +kernel)) r16
          obtain ⟨_, rfl⟩ := r30
          obtain ⟨x33, hx33, hs28⟩ := Mi.bnd hs28
          refine w_args (va_cons (itm_LI r2 hx33 (val_var rfl) (ku32 (val_var rfl))) va_nil) ?_
          obtain ⟨q34, hq34, hs28⟩ := Mi.bnd hs28
          refine ⟨u15, x13.2, x33, q34, rfl, r16, hq34, fun H36 c35  => ?_⟩
          have r0 := Ty.fz r0 c35
          have r2 := Ty.ex r2 c35
          have r3 := Ty.ex r3 c35
          have r16 := Ty.fz r16 c35
          have c0 := c0.trans c35.none
          refine ⟨_, rfl, ?_⟩
          refine c_if (fun hb => ?_) (fun hb => ?_)
          ·
            replace hs28 := Mi.ifT hb hs28
            refine q_drop (w_bm (c_val (val_var rfl) ⟨tyv_lst r3, ?_⟩))
            refine w_args (va_cons (val_var rfl) va_nil) ?_
            obtain ⟨x37, hx37, hs28⟩ := Mi.bnd hs28
            refine m_app r3 yInt_i hx37 fun H39 c38 r3 => ?_
            have r0 := Ty.fz r0 c38
            have r2 := Ty.chg r2 c38 d6
            have r16 := Ty.fz r16 c38
            have c0 := c0.join c38 (fun a h => .inr (n7 a h))
            refine w_nextJ ?_
            obtain rfl := Option.some.inj hs28
            exact kx _ _ ⟨rfl, c0, r0, r2, r3, r16⟩
          ·
            replace hs28 := Mi.ifF hb hs28
            refine w_nextJ ?_
            obtain rfl := Option.some.inj hs28
            exact kx _ _ ⟨rfl, c0, r0, r2, r3, r16⟩
        obtain ⟨rfl, c0, r0, r2, r3, r16⟩ := hj
        refine w_nextJ ?_
        obtain rfl := Option.some.inj hbe8
        exact ⟨_, (some (.int x13.1)), (some u15), rfl, c0, r0, r2, r3, hle8⟩
      obtain ⟨s9, y10, y11, rfl, c0, r0, r2, r3, hle8⟩ := hp
      obtain rfl := Mi.forN_end hle8
      refine q_ret ?_
      refine c_val (val_var rfl) ?_
      obtain rfl := Option.some.inj hm
      exact hQ _ _ _ c0 r3 n7 
abbrev s_l_hand : Stmt := topS 14
abbrev N_l_hand : List Str := ["_law_script", "_law_k", "_law_cell", "_law_rest"]
theorem sc_l_hand : FnScope ["_law_script", "_law_k", "_law_cell", "_law_rest"] ["_law_script", "_law_k"] (defScope s_l_hand) := ⟨rfl, rfl, rfl, by decide +kernel, rfl, by decide +kernel, by decide +kernel⟩
def sp_l_hand (K : PySem.W.Frag) : Sp := fun vs H Q _ => ∃ (v0 : V) (d0 : (List Int)) (d1 : Int) (r : (List Int)), vs = [v0, (.int d1)] ∧ yScr.rep K H [] v0 d0 ∧ Mi.m_l_hand d0 d1 = some r ∧ ∀ v H' F, Chg ([]) H H' → (yLst yInt).rep K H' F v r → (∀ a ∈ F, H a = none) → Q v H'
theorem ok_l_hand (B : Bi mg) (CN : Cs mg) (D : Dfn K mg "_law_hand" s_l_hand)  : Cal P w K mg "_law_hand" ["_law_script", "_law_k"] 1 (sp_l_hand K) := by
  obtain ⟨f, fd, F, g⟩ := D.ex
  refine ⟨f, fd, g, F.kp, bindsF F (fun _ _ _ _ _ _ us hl => match us, hl with | [_, _], _ => rfl), fun base => F.ok sc_l_hand (fun vs H Q E h => ?_) (fun cdv A outer s H0 vs Q E hr h => ?_)⟩
  · obtain ⟨v0, d0, d1, r, rfl, r0, hm, hQ⟩ := h; rfl
  ·
    obtain ⟨v0, d0, d1, r, rfl, r0, hm, hQ⟩ := h
    refine ⟨_, pss_cons (ps_set (i := 2) sc_l_hand.nd rfl (.inl rfl) pe_int)
      (pss_cons (ps_if (pt_cmpR op_lt (pv 1) (pe_callB (cl_len (K := K)) (by rfl) B.len PySem.boot_len (pa_cons (pv 0) pa_nil)) (nomark _)) (pss_cons (ps_set (i := 2) sc_l_hand.nd rfl (.inl rfl) (pe_ix (ix_l (K := K)) (pv 0) (pv 1) (fun _ _ => rfl)))
      (pss_nil)) (pss_nil))
      (pss_cons (ps_if (pt_cmpR op_lt (pv 2) pe_int (nomark _)) (pss_cons (ps_set (i := 2) sc_l_hand.nd rfl (.inl rfl) (pe_op op_sub pe_int (pe_op op_mul pe_int (pv 2))))
      (pss_nil)) (pss_nil))
      (pss_cons (ps_set (i := 3) sc_l_hand.nd rfl (.inl rfl) pe_int)
      (pss_cons (ps_if (pt_cmpR op_ge (pv 2) (pe_op op_pow pe_int pe_int) (nomark _)) (pss_cons (ps_set (i := 3) sc_l_hand.nd rfl (.inl rfl) (pv 2))
      (pss_nil)) (pss_nil))
      (pss_cons (ps_ret (pe_lst (pa_cons (pv 3) (pa_cons (pe_op op_mod (pe_callTy cl_int (by rfl) B.int (by decide +kernel) (pa_cons (pe_op op_add (pe_op op_add (pv 2) (pe_op op_mul pe_int (pv 1))) pe_int) pa_nil)) pe_int) (pa_cons pe_int pa_nil))))) pss_nil))))), ?_⟩
    have c0 : Chg ([] : List Addr) H0 H0 := Chg.refl H0
    unfold Mi.m_l_hand at hm
    obtain ⟨cell1, hcell1, hm⟩ := Mi.letE hm
    refine q_setE val_c (congrArg V.int hcell1) (σ' := [some v0, some (.int d1), some (.int cell1), none]) rfl ?_
    obtain ⟨s2, hs2, hm⟩ := Mi.bnd hm
    refine s_join (R := fun σ' H' => σ' = [some v0, some (.int d1), some (.int s2), none] ∧ Chg ([] : List Addr) H0 H' ∧ yScr.rep K H' [] v0 d0) (fun nx kx => ?_) (fun σ' H' hj => ?_)
    ·
      refine s_if (ans_t (val_lt (val_var rfl) (val_lenS r0 (val_var rfl)))) (fun hb => ?_) (fun hb => ?_)
      ·
        replace hs2 := Mi.ifT hb hs2
        obtain ⟨x3, hx3, hs2⟩ := Mi.bnd hs2
        obtain ⟨cell4, hcell4, hs2⟩ := Mi.letE hs2
        refine q_setE (itm_S r0 hx3 (val_var rfl) (val_var rfl)) (congrArg V.int hcell4) (σ' := [some v0, some (.int d1), some (.int cell4), none]) rfl ?_
        refine w_nextJ ?_
        obtain rfl := Option.some.inj hs2
        exact kx _ _ ⟨rfl, c0, r0⟩
      ·
        replace hs2 := Mi.ifF hb hs2
        refine w_nextJ ?_
        obtain rfl := Option.some.inj hs2
        exact kx _ _ ⟨rfl, c0, r0⟩
    obtain ⟨rfl, c0, r0⟩ := hj
    obtain ⟨s5, hs5, hm⟩ := Mi.bnd hm
    refine s_join (R := fun σ' H' => σ' = [some v0, some (.int d1), some (.int s5), none] ∧ Chg ([] : List Addr) H0 H' ∧ yScr.rep K H' [] v0 d0) (fun nx kx => ?_) (fun σ' H' hj => ?_)
    ·
      refine s_if (ans_t (val_lt (val_var rfl) val_c)) (fun hb => ?_) (fun hb => ?_)
      ·
        replace hs5 := Mi.ifT hb hs5
        obtain ⟨cell6, hcell6, hs5⟩ := Mi.letE hs5
        refine q_setE (val_sub val_c (val_mulL val_c (val_var rfl) ⟨by decide, by decide⟩)) (congrArg V.int hcell6) (σ' := [some v0, some (.int d1), some (.int cell6), none]) rfl ?_
        refine w_nextJ ?_
        obtain rfl := Option.some.inj hs5
        exact kx _ _ ⟨rfl, c0, r0⟩
      ·
        replace hs5 := Mi.ifF hb hs5
        refine w_nextJ ?_
        obtain rfl := Option.some.inj hs5
        exact kx _ _ ⟨rfl, c0, r0⟩
    obtain ⟨rfl, c0, r0⟩ := hj
    obtain ⟨rest7, hrest7, hm⟩ := Mi.letE hm
    refine q_setE val_c (congrArg V.int hrest7) (σ' := [some v0, some (.int d1), some (.int s5), some (.int rest7)]) rfl ?_
    obtain ⟨s8, hs8, hm⟩ := Mi.bnd hm
    refine s_join (R := fun σ' H' => σ' = [some v0, some (.int d1), some (.int s5), some (.int s8)] ∧ Chg ([] : List Addr) H0 H' ∧ yScr.rep K H' [] v0 d0) (fun nx kx => ?_) (fun σ' H' hj => ?_)
    ·
      refine s_if (ans_t (val_ge (val_var rfl) (val_pow (n := 18) val_c val_c rfl (by decide) (by decide)))) (fun hb => ?_) (fun hb => ?_)
      ·
        replace hs8 := Mi.ifT hb hs8
        obtain ⟨rest9, hrest9, hs8⟩ := Mi.letE hs8
        refine q_setE (val_var rfl) (congrArg V.int hrest9) (σ' := [some v0, some (.int d1), some (.int s5), some (.int rest9)]) rfl ?_
        refine w_nextJ ?_
        obtain rfl := Option.some.inj hs8
        exact kx _ _ ⟨rfl, c0, r0⟩
      ·
        replace hs8 := Mi.ifF hb hs8
        refine w_nextJ ?_
        obtain rfl := Option.some.inj hs8
        exact kx _ _ ⟨rfl, c0, r0⟩
    obtain ⟨rfl, c0, r0⟩ := hj
    refine q_ret ?_
    refine w_lst ?_
    refine w_args (va_cons (val_var rfl) (va_cons (val_modc (val_int (val_add (val_add (val_var rfl) (val_mulL val_c (val_var rfl) ⟨by decide, by decide⟩)) val_c)) val_c (by decide)) (va_cons val_c va_nil))) ?_
    refine e_lst (K := K) (τ := yInt) (by exact Nat.le_of_ble_eq_true rfl) (.cons yInt_i (.cons yInt_i (.cons yInt_i .nil))) fun p10 H14 np13 c11 r12 => ?_
    have n15 : ∀ a ∈ [p10], H0 a = none := one_fresh (c0.dom p10 np13)
    have r0 := Ty.fz r0 c11
    have c0 := c0.trans c11.none
    obtain rfl := Option.some.inj hm
    exact hQ _ _ _ c0 r12 n15 
abbrev s_l_pick : Stmt := topS 15
abbrev N_l_pick : List Str := ["_law_hand_here", "_law_size", "_law_digit", "_law_mixed"]
theorem sc_l_pick : FnScope ["_law_hand_here", "_law_size", "_law_digit", "_law_mixed"] ["_law_hand_here", "_law_size"] (defScope s_l_pick) := ⟨rfl, rfl, rfl, by decide +kernel, rfl, by decide +kernel, by decide +kernel⟩
def sp_l_pick (K : PySem.W.Frag) : Sp := fun vs H Q _ => ∃ (v0 : V) (F0 : List Addr) (d0 : (List Int)) (d1 : Int) (r : (Int × (List Int))), vs = [v0, (.int d1)] ∧ (yLst yInt).rep K H F0 v0 d0 ∧ Mi.m_l_pick d0 d1 = some r ∧ ∀ H', Chg (F0) H H' → (yLst yInt).rep K H' F0 v0 r.2 → Q (.int r.1) H'
theorem ok_l_pick (B : Bi mg) (CN : Cs mg) (D : Dfn K mg "_law_pick" s_l_pick)  : Cal P w K mg "_law_pick" ["_law_hand_here", "_law_size"] 1 (sp_l_pick K) := by
  obtain ⟨f, fd, F, g⟩ := D.ex
  refine ⟨f, fd, g, F.kp, bindsF F (fun _ _ _ _ _ _ us hl => match us, hl with | [_, _], _ => rfl), fun base => F.ok sc_l_pick (fun vs H Q E h => ?_) (fun cdv A outer s H0 vs Q E hr h => ?_)⟩
  · obtain ⟨v0, F0, d0, d1, r, rfl, r0, hm, hQ⟩ := h; rfl
  ·
    obtain ⟨v0, F0, d0, d1, r, rfl, r0, hm, hQ⟩ := h
    refine ⟨_, pss_cons (ps_if (pt_cmpR op_lt (pv 1) pe_int (nomark _)) (pss_cons (ps_ret pe_int) pss_nil) (pss_nil))
      (pss_cons (ps_if (pt_cmpR op_gt (pe_ix (ix_l (K := K)) (pv 0) pe_int (fun _ _ => rfl)) pe_int (nomark _)) (pss_cons (ps_set (i := 2) sc_l_pick.nd rfl (.inl rfl) (pe_op op_mod (pe_callTy cl_int (by rfl) B.int (by decide +kernel) (pa_cons (pe_ix (ix_l (K := K)) (pv 0) pe_int (fun _ _ => rfl)) pa_nil)) (pv 1)))
      (pss_cons (ps_asg (pe_op op_fdivW (pe_ix (ix_l (K := K)) (pv 0) pe_int (fun _ _ => rfl)) (pv 1)) (pg_sub (pv 0) pe_int set_list))
      (pss_cons (ps_ret (pv 2)) pss_nil))) (pss_nil))
      (pss_cons (ps_asg (pe_op op_add (pe_ix (ix_l (K := K)) (pv 0) pe_int (fun _ _ => rfl)) pe_int) (pg_sub (pv 0) pe_int set_list))
      (pss_cons (ps_set (i := 3) sc_l_pick.nd rfl (.inl rfl) (pe_op op_mod (pe_callTy cl_int (by rfl) B.int (by decide +kernel) (pa_cons (pe_op op_add (pe_op op_add (pe_ix (ix_l (K := K)) (pv 0) pe_int (fun _ _ => rfl)) (pe_op op_mul pe_int (pe_ix (ix_l (K := K)) (pv 0) pe_int (fun _ _ => rfl)))) pe_int) pa_nil)) pe_int))
      (pss_cons (ps_set (i := 3) sc_l_pick.nd rfl (.inl rfl) (pe_op op_mod (pe_callTy cl_int (by rfl) B.int (by decide +kernel) (pa_cons (pe_op op_mul (pv 3) (pe_op op_add (pv 3) pe_int)) pa_nil)) pe_int))
      (pss_cons (ps_set (i := 3) sc_l_pick.nd rfl (.inl rfl) (pe_op op_mod (pe_callTy cl_int (by rfl) B.int (by decide +kernel) (pa_cons (pe_op op_add (pe_op op_mul (pv 3) (pe_op op_add (pv 3) pe_int)) (pe_op op_mul pe_int (pe_ix (ix_l (K := K)) (pv 0) pe_int (fun _ _ => rfl)))) pa_nil)) pe_int))
      (pss_cons (ps_ret (pe_op op_mod (pe_callTy cl_int (by rfl) B.int (by decide +kernel) (pa_cons (pe_op op_fdiv (pv 3) pe_int) pa_nil)) (pv 1))) pss_nil)))))), ?_⟩
    have c0 : Chg (F0) H0 H0 := Chg.refl H0
    unfold Mi.m_l_pick at hm
    refine q_if (ans_t (val_lt (val_var rfl) val_c)) (fun hb => ?_) (fun hb => ?_)
    ·
      replace hm := Mi.ifT hb hm
      refine q_ret ?_
      refine c_val val_c ?_
      obtain rfl := Option.some.inj hm
      exact hQ _ c0 r0
    replace hm := Mi.ifF hb hm
    refine w_fall ?_
    obtain ⟨x1, hx1, hm⟩ := Mi.bnd hm
    refine q_if (ans_t (val_gt (itm_LI r0 hx1 (val_var rfl) val_c) val_c)) (fun hb => ?_) (fun hb => ?_)
    ·
      replace hm := Mi.ifT hb hm
      obtain ⟨x2, hx2, hm⟩ := Mi.bnd hm
      obtain ⟨x3, hx3, hm⟩ := Mi.bnd hm
      obtain ⟨digit4, hdigit4, hm⟩ := Mi.letE hm
      refine q_setE (val_mod (val_int (itm_LI r0 hx2 (val_var rfl) val_c)) (val_var rfl) hx3) (congrArg V.int hdigit4) (σ' := [some v0, some (.int d1), some (.int digit4), none]) rfl ?_
      refine q_asg ?_
      obtain ⟨x5, hx5, hm⟩ := Mi.bnd hm
      obtain ⟨x6, hx6, hm⟩ := Mi.bnd hm
      refine c_val (val_fdiv (itm_LI r0 hx5 (val_var rfl) val_c) (val_var rfl) hx6) ?_
      refine w_gsub ?_
      refine c_val (val_var rfl) ?_
      refine c_val val_c ?_
      obtain ⟨x7, hx7, hm⟩ := Mi.bnd hm
      refine m_set r0 yInt_i hx7 fun H9 c8 r0 => ?_
      have c0 := c0.join c8 (fun a h => .inl (h))
      refine q_ret ?_
      refine c_val (val_var rfl) ?_
      obtain rfl := Option.some.inj hm
      exact hQ _ c0 r0
    replace hm := Mi.ifF hb hm
    refine w_fall ?_
    refine q_asg ?_
    obtain ⟨x10, hx10, hm⟩ := Mi.bnd hm
    refine c_val (val_add (itm_LI r0 hx10 (val_var rfl) val_c) val_c) ?_
    refine w_gsub ?_
    refine c_val (val_var rfl) ?_
    refine c_val val_c ?_
    obtain ⟨x11, hx11, hm⟩ := Mi.bnd hm
    refine m_set r0 yInt_i hx11 fun H13 c12 r0 => ?_
    have c0 := c0.join c12 (fun a h => .inl (h))
    obtain ⟨x14, hx14, hm⟩ := Mi.bnd hm
    obtain ⟨x15, hx15, hm⟩ := Mi.bnd hm
    obtain ⟨mixed16, hmixed16, hm⟩ := Mi.letE hm
    refine q_setE (val_modc (val_int (val_add (val_add (itm_LI r0 hx14 (val_var rfl) val_c) (val_mulL val_c (itm_LI r0 hx15 (val_var rfl) val_c) ⟨by decide, by decide⟩)) val_c)) val_c (by decide)) (congrArg V.int hmixed16) (σ' := [some v0, some (.int d1), none, some (.int mixed16)]) rfl ?_
    obtain ⟨x17, hx17, hm⟩ := Mi.bnd hm
    obtain ⟨mixed18, hmixed18, hm⟩ := Mi.letE hm
    refine q_setE (val_modc (val_int (val_mul (val_var rfl) (val_add (val_var rfl) val_c) hx17)) val_c (by decide)) (congrArg V.int hmixed18) (σ' := [some v0, some (.int d1), none, some (.int mixed18)]) rfl ?_
    obtain ⟨x19, hx19, hm⟩ := Mi.bnd hm
    obtain ⟨x20, hx20, hm⟩ := Mi.bnd hm
    obtain ⟨mixed21, hmixed21, hm⟩ := Mi.letE hm
    refine q_setE (val_modc (val_int (val_add (val_mul (val_var rfl) (val_add (val_var rfl) val_c) hx19) (val_mulL val_c (itm_LI r0 hx20 (val_var rfl) val_c) ⟨by decide, by decide⟩))) val_c (by decide)) (congrArg V.int hmixed21) (σ' := [some v0, some (.int d1), none, some (.int mixed21)]) rfl ?_
    refine q_ret ?_
    obtain ⟨x22, hx22, hm⟩ := Mi.bnd hm
    refine c_val (val_mod (val_int (val_divc (val_var rfl) val_c ⟨by decide, by decide⟩)) (val_var rfl) hx22) ?_
    obtain rfl := Option.some.inj hm
    exact hQ _ c0 r0
abbrev s_l_int : Stmt := topS 16
abbrev N_l_int : List Str := ["_law_x"]
theorem sc_l_int : FnScope ["_law_x"] ["_law_x"] (defScope s_l_int) := ⟨rfl, rfl, rfl, by decide +kernel, rfl, by decide +kernel, by decide +kernel⟩
def sp_l_int (K : PySem.W.Frag) : Sp := fun vs H Q _ => ∃ (d0 : Int) (r : Bool), vs = [(.int d0)] ∧ Mi.m_l_int d0 = some r ∧ ∀ H', Chg ([]) H H' → Q (.bl r) H'
theorem ok_l_int (B : Bi mg) (CN : Cs mg) (D : Dfn K mg "_law_int" s_l_int)  : Cal P w K mg "_law_int" ["_law_x"] 1 (sp_l_int K) := by
  obtain ⟨f, fd, F, g⟩ := D.ex
  refine ⟨f, fd, g, F.kp, bindsF F (fun _ _ _ _ _ _ us hl => match us, hl with | [_], _ => rfl), fun base => F.ok sc_l_int (fun vs H Q E h => ?_) (fun cdv A outer s H0 vs Q E hr h => ?_)⟩
  · obtain ⟨d0, r, rfl, hm, hQ⟩ := h; rfl
  ·
    obtain ⟨d0, r, rfl, hm, hQ⟩ := h
    refine ⟨_, pss_cons (ps_ret (pe_and (pe_callB (cl_isi (K := K)) (by rfl) B.isinstance (by decide +kernel) (pa_cons (pv 0) (pa_cons (pe_bltn (v := .ty "int") (by rfl) B.int (by decide +kernel) rfl) pa_nil))) (pe_one (pe_not (pe_callB (cl_isi (K := K)) (by rfl) B.isinstance (by decide +kernel) (pa_cons (pv 0) (pa_cons (pe_bltn (v := .ty "bool") (by rfl) B.bool (by decide +kernel) rfl) pa_nil))))))) pss_nil, ?_⟩
    have c0 : Chg ([] : List Addr) H0 H0 := Chg.refl H0
    unfold Mi.m_l_int at hm
    refine q_ret ?_
    refine c_val (val_andV (val_isi (val_var rfl) ty_int (n := "int") (m := "int") (b := true) (by decide +kernel)) (fun _ => (val_notV (val_isi (val_var rfl) ty_int (n := "int") (m := "bool") (b := false) (by decide +kernel))))) ?_
    obtain rfl := Option.some.inj hm
    exact hQ _ c0 
abbrev s_l_places : Stmt := topS 17
abbrev N_l_places : List Str := ["_law_code", "_law_kind", "_law_bits", "_law_place"]
theorem sc_l_places : FnScope ["_law_code", "_law_kind", "_law_bits", "_law_place"] ["_law_code"] (defScope s_l_places) := ⟨rfl, rfl, rfl, by decide +kernel, rfl, by decide +kernel, by decide +kernel⟩
def sp_l_places (K : PySem.W.Frag) : Sp := fun vs H Q _ => ∃ (d0 : Int) (r : (List Int)), vs = [(.int d0)] ∧ Mi.m_l_places d0 = some r ∧ ∀ v H' F, Chg ([]) H H' → (yLst yInt).rep K H' F v r → (∀ a ∈ F, H a = none) → Q v H'
theorem ok_l_places (B : Bi mg) (CN : Cs mg) (D : Dfn K mg "_law_places" s_l_places)  : Cal P w K mg "_law_places" ["_law_code"] 1 (sp_l_places K) := by
  obtain ⟨f, fd, F, g⟩ := D.ex
  refine ⟨f, fd, g, F.kp, bindsF F (fun _ _ _ _ _ _ us hl => match us, hl with | [_], _ => rfl), fun base => F.ok sc_l_places (fun vs H Q E h => ?_) (fun cdv A outer s H0 vs Q E hr h => ?_)⟩
  · obtain ⟨d0, r, rfl, hm, hQ⟩ := h; rfl
  ·
    obtain ⟨d0, r, rfl, hm, hQ⟩ := h
    refine ⟨_, pss_cons (ps_set (i := 1) sc_l_places.nd rfl (.inl rfl) (pe_op op_mod (pe_callTy cl_int (by rfl) B.int (by decide +kernel) (pa_cons (pv 0) pa_nil)) pe_int))
      (pss_cons (ps_set (i := 2) sc_l_places.nd rfl (.inr rfl) (pe_op op_fdiv (pv 0) pe_int))
      (pss_cons (ps_if (pt_cmpR op_eq (pv 1) pe_int (nomark _)) (pss_cons (ps_set (i := 2) sc_l_places.nd rfl (.inr rfl) pe_int)
      (pss_nil)) (pss_nil))
      (pss_cons (ps_if (pt_cmpR op_eq (pv 1) pe_int (nomark _)) (pss_cons (ps_set (i := 2) sc_l_places.nd rfl (.inr rfl) pe_int)
      (pss_nil)) (pss_nil))
      (pss_cons (ps_if (pt_cmpR op_eq (pv 1) pe_int (nomark _)) (pss_cons (ps_set (i := 2) sc_l_places.nd rfl (.inr rfl) (pe_op op_shl pe_int (pe_op op_mod (pe_callTy cl_int (by rfl) B.int (by decide +kernel) (pa_cons (pv 2) pa_nil)) pe_int)))
      (pss_nil)) (pss_nil))
      (pss_cons (ps_ret (pe_lc (own := [("_law_place", 3)]) rfl sc_l_places.nd (pi_range1 (by rfl) B.range (pa_cons pe_int pa_nil)) (blkOk_by (own := [("_law_place", 3)]) (N := N_l_places) (sc := defScope s_l_places) (by decide +kernel)) (fun _ _ _ _ _ => (pg_name (i := 3) sc_l_places.nd rfl (.inl rfl))) (fun _ _ _ _ _ => (pts_one (pt_cmpR op_eq (pe_op op_mod (pe_callTy cl_int (by rfl) B.int (by decide +kernel) (pa_cons (pe_op op_shr (pv 2) (pv 3)) pa_nil)) pe_int) pe_int (nomark _)))) (fun _ _ _ _ _ => (pv 3)))) pss_nil))))), ?_⟩
    have c0 : Chg ([] : List Addr) H0 H0 := Chg.refl H0
    unfold Mi.m_l_places at hm
    obtain ⟨kind1, hkind1, hm⟩ := Mi.letE hm
    refine q_setE (val_modc (val_int (val_var rfl)) val_c (by decide)) (congrArg V.int hkind1) (σ' := [some (.int d0), some (.int kind1), none, none]) rfl ?_
    obtain ⟨bits2, hbits2, hm⟩ := Mi.letE hm
    refine q_setE (val_divc (val_var rfl) val_c ⟨by decide, by decide⟩) (congrArg V.int hbits2) (σ' := [some (.int d0), some (.int kind1), some (.int bits2), none]) rfl ?_
    obtain ⟨s3, hs3, hm⟩ := Mi.bnd hm
    refine s_join (R := fun σ' H' => σ' = [some (.int d0), some (.int kind1), some (.int s3), none] ∧ Chg ([] : List Addr) H0 H') (fun nx kx => ?_) (fun σ' H' hj => ?_)
    ·
      refine s_if (ans_t (val_eqI (val_var rfl) val_c)) (fun hb => ?_) (fun hb => ?_)
      ·
        replace hs3 := Mi.ifT hb hs3
        obtain ⟨bits4, hbits4, hs3⟩ := Mi.letE hs3
        refine q_setE val_c (congrArg V.int hbits4) (σ' := [some (.int d0), some (.int kind1), some (.int bits4), none]) rfl ?_
        refine w_nextJ ?_
        obtain rfl := Option.some.inj hs3
        exact kx _ _ ⟨rfl, c0⟩
      ·
        replace hs3 := Mi.ifF hb hs3
        refine w_nextJ ?_
        obtain rfl := Option.some.inj hs3
        exact kx _ _ ⟨rfl, c0⟩
    obtain ⟨rfl, c0⟩ := hj
    obtain ⟨s5, hs5, hm⟩ := Mi.bnd hm
    refine s_join (R := fun σ' H' => σ' = [some (.int d0), some (.int kind1), some (.int s5), none] ∧ Chg ([] : List Addr) H0 H') (fun nx kx => ?_) (fun σ' H' hj => ?_)
    ·
      refine s_if (ans_t (val_eqI (val_var rfl) val_c)) (fun hb => ?_) (fun hb => ?_)
      ·
        replace hs5 := Mi.ifT hb hs5
        obtain ⟨bits6, hbits6, hs5⟩ := Mi.letE hs5
        refine q_setE val_c (congrArg V.int hbits6) (σ' := [some (.int d0), some (.int kind1), some (.int bits6), none]) rfl ?_
        refine w_nextJ ?_
        obtain rfl := Option.some.inj hs5
        exact kx _ _ ⟨rfl, c0⟩
      ·
        replace hs5 := Mi.ifF hb hs5
        refine w_nextJ ?_
        obtain rfl := Option.some.inj hs5
        exact kx _ _ ⟨rfl, c0⟩
    obtain ⟨rfl, c0⟩ := hj
    obtain ⟨s7, hs7, hm⟩ := Mi.bnd hm
    refine s_join (R := fun σ' H' => σ' = [some (.int d0), some (.int kind1), some (.int s7), none] ∧ Chg ([] : List Addr) H0 H') (fun nx kx => ?_) (fun σ' H' hj => ?_)
    ·
      refine s_if (ans_t (val_eqI (val_var rfl) val_c)) (fun hb => ?_) (fun hb => ?_)
      ·
        replace hs7 := Mi.ifT hb hs7
        obtain ⟨x8, hx8, hs7⟩ := Mi.bnd hs7
        obtain ⟨bits9, hbits9, hs7⟩ := Mi.letE hs7
        refine q_setE (val_shlO val_c (val_modc (val_int (val_var rfl)) val_c (by decide)) hx8) (congrArg V.int hbits9) (σ' := [some (.int d0), some (.int kind1), some (.int bits9), none]) rfl ?_
        refine w_nextJ ?_
        obtain rfl := Option.some.inj hs7
        exact kx _ _ ⟨rfl, c0⟩
      ·
        replace hs7 := Mi.ifF hb hs7
        refine w_nextJ ?_
        obtain rfl := Option.some.inj hs7
        exact kx _ _ ⟨rfl, c0⟩
    obtain ⟨rfl, c0⟩ := hj
    refine q_ret ?_
    refine w_lc ?_
    refine w_iRng1 ?_
    refine w_args (va_cons val_c va_nil) ?_
    obtain ⟨g10, hg10, hm⟩ := Mi.bnd hm
    obtain ⟨e11, he11, hm⟩ := Mi.bnd hm
    refine kc_rng1 (K := K) (τ := yInt) hg10 (fun D13 i H' => ∃ (s12 : (List Int)), Chg ([] : List Addr) H0 H' ∧ (yLst yInt).rep K H' [D13] (.ref D13) s12 ∧ (∀ a ∈ [D13], H0 a = none) ∧ Mi.forN (Mi.m_l_places_b1 s7) s12 (List.drop i g10) = some e11) (fun D13 H18 np17 c16 r14 => ⟨([] : (List Int)), c0.trans c16.none, r14, one_fresh (c0.dom D13 np17), he11⟩) (fun D13 i21 x20 H22 hx19 hp => ?_) (fun D13 H' np17 hp => ?_)
    ·
      obtain ⟨s12, c0, r14, n15, hle11⟩ := hp
      obtain ⟨_, hbe11, hle11⟩ := Mi.forN_go hle11 hx19
      unfold Mi.m_l_places_b1 at hbe11
      refine g_name (σ' := [some (.int d0), some (.int kind1), some (.int s7), some (.int x20)]) rfl ?_
      refine ⟨rfl, ?_⟩
      obtain ⟨x27, hx27, hbe11⟩ := Mi.bnd hbe11
      refine c_ans (ans_t (val_eqI (val_modc (val_int (val_shrO (val_var rfl) (val_var rfl) hx27)) val_c (by decide)) val_c)) ?_
      refine c_if (fun hb => ?_) (fun hb => ?_)
      ·
        replace hbe11 := Mi.ifT hb hbe11
        refine c_val (val_var rfl) ?_
        obtain ⟨x28, hx28, hbe11⟩ := Mi.bnd hbe11
        refine e_app r14 yInt_i hx28 fun H30 c29 r14 => ?_
        have c0 := c0.join c29 (fun a h => .inr (n15 a h))
        obtain rfl := Option.some.inj hbe11
        exact ⟨_, c0, r14, n15, hle11⟩
      ·
        replace hbe11 := Mi.ifF hb hbe11
        obtain rfl := Option.some.inj hbe11
        exact ⟨_, c0, r14, n15, hle11⟩
    obtain ⟨s12, c0, r14, n15, hle11⟩ := hp
    obtain rfl := Mi.forN_end hle11
    obtain rfl := Option.some.inj hm
    exact hQ _ _ _ c0 r14 n15 
abbrev s_l_wild : Stmt := topS 18
abbrev N_l_wild : List Str := ["_law_hand_here", "_law_count", "_law_last", "_law_number", "_law_notes", "_law_k", "_law_who", "_law_when", "_law_zone", "_law_worth"]
theorem sc_l_wild : FnScope ["_law_hand_here", "_law_count", "_law_last", "_law_number", "_law_notes", "_law_k", "_law_who", "_law_when", "_law_zone", "_law_worth"] ["_law_hand_here", "_law_count", "_law_last", "_law_number"] (defScope s_l_wild) := ⟨rfl, rfl, rfl, by decide +kernel, rfl, by decide +kernel, by decide +kernel⟩
def sp_l_wild (K : PySem.W.Frag) : Sp := fun vs H Q _ => ∃ (v0 : V) (F0 : List Addr) (d0 : (List Int)) (d1 : Int) (d2 : Int) (d3 : Int) (r : ((List (Int × Int × (List Int) × Int × Bool)) × (List Int))), vs = [v0, (.int d1), (.int d2), (.int d3)] ∧ (yLst yInt).rep K H F0 v0 d0 ∧ Mi.m_l_wild d0 d1 d2 d3 = some r ∧ ∀ v H' F, Chg (F0) H H' → (yLsg (yTup (sCons yInt (sCons yInt (sCons (yLst yInt) (sCons yInt (sOne yBool))))))).rep K H' F v r.1 → (∀ a ∈ F, H a = none) → (yLst yInt).rep K H' F0 v0 r.2 → Q v H'
theorem ok_l_wild (B : Bi mg) (CN : Cs mg) (D : Dfn K mg "_law_wild" s_l_wild) (C_l_pick : Cal P w K mg "_law_pick" ["_law_hand_here", "_law_size"] 1 (sp_l_pick K)) (C_l_places : Cal P w K mg "_law_places" ["_law_code"] 1 (sp_l_places K)) : Cal P w K mg "_law_wild" ["_law_hand_here", "_law_count", "_law_last", "_law_number"] 2 (sp_l_wild K) := by
  obtain ⟨f, fd, F, g⟩ := D.ex
  refine ⟨f, fd, g, F.kp, bindsF F (fun _ _ _ _ _ _ us hl => match us, hl with | [_, _, _, _], _ => rfl), fun base => F.ok sc_l_wild (fun vs H Q E h => ?_) (fun cdv A outer s H0 vs Q E hr h => ?_)⟩
  · obtain ⟨v0, F0, d0, d1, d2, d3, r, rfl, r0, hm, hQ⟩ := h; rfl
  ·
    obtain ⟨v0, F0, d0, d1, d2, d3, r, rfl, r0, hm, hQ⟩ := h
    refine ⟨_, pss_cons (ps_set (i := 4) sc_l_wild.nd rfl (.inl rfl) (pe_lst pa_nil))
      (pss_cons (ps_for PassesOwn.never rfl (pi_range1 (by rfl) B.range (pa_cons (pv 1) pa_nil)) (pg_name (i := 5) sc_l_wild.nd rfl (.inl rfl)) (pss_cons (ps_set (i := 6) sc_l_wild.nd rfl (.inl rfl) (pe_cc C_l_pick hr (pa_cons (pv 0) (pa_cons pe_int pa_nil))))
      (pss_cons (ps_set (i := 7) sc_l_wild.nd rfl (.inl rfl) (pe_cc C_l_pick hr (pa_cons (pv 0) (pa_cons pe_int pa_nil))))
      (pss_cons (ps_set (i := 8) sc_l_wild.nd rfl (.inl rfl) (pe_cc C_l_places hr (pa_cons (pe_cc C_l_pick hr (pa_cons (pv 0) (pa_cons pe_int pa_nil))) pa_nil)))
      (pss_cons (ps_set (i := 9) sc_l_wild.nd rfl (.inl rfl) (pe_cc C_l_pick hr (pa_cons (pv 0) (pa_cons pe_int pa_nil))))
      (pss_cons (ps_if (pt_cmpR op_gt (pv 6) pe_int (nomark _)) (pss_cons (ps_set (i := 6) sc_l_wild.nd rfl (.inl rfl) (pv 3))
      (pss_nil)) (pss_nil))
      (pss_cons (ps_if (pt_cmpR op_lt (pv 7) pe_int (nomark _)) (pss_cons (ps_set (i := 7) sc_l_wild.nd rfl (.inl rfl) (pe_op op_mod (pe_callTy cl_int (by rfl) B.int (by decide +kernel) (pa_cons (pv 7) pa_nil)) (pe_op op_add (pv 2) pe_int)))
      (pss_nil)) (pss_cons (ps_set (i := 7) sc_l_wild.nd rfl (.inl rfl) (pe_op op_sub (pv 7) pe_int))
      (pss_nil)))
      (pss_cons (ps_expr (pe_bm PySem.F.plainAttrs_list PySem.F.slot_list_append PySem.F.type_list_append mt_append (pv 4) (pa_cons (pe_tup (pa_cons (pv 6) (pa_cons (pv 7) (pa_cons (pv 8) (pa_cons (pe_op op_add pe_int (pe_op op_fdiv (pv 9) pe_int)) (pa_cons (pe_cmpR op_eq (pe_op op_mod (pe_callTy cl_int (by rfl) B.int (by decide +kernel) (pa_cons (pv 9) pa_nil)) pe_int) pe_int (nomark _)) pa_nil)))))) pa_nil)))
      (pss_nil)))))))))
      (pss_cons (ps_ret (pv 4)) pss_nil)), ?_⟩
    have c0 : Chg (F0) H0 H0 := Chg.refl H0
    unfold Mi.m_l_wild at hm
    refine q_asg ?_
    refine w_lst ?_
    refine w_args va_nil ?_
    refine e_lsg (K := K) (τ := (yTup (sCons yInt (sCons yInt (sCons (yLst yInt) (sCons yInt (sOne yBool))))))) (G := []) (by exact Nat.le_of_ble_eq_true rfl) dm_nil .nil fun p1 H5 np4 c2 r3 => ?_
    have d6 : Dj F0 [p1] := Ty.nin r0 np4
    have n7 : ∀ a ∈ [p1], H0 a = none := fresh_cons (c0.dom p1 np4) nil_fresh
    have r0 := Ty.ex r0 c2
    have c0 := c0.trans c2.none
    refine g_name (σ' := [some v0, some (.int d1), some (.int d2), some (.int d3), some (.ref p1), none, none, none, none, none]) rfl ?_
    refine q_for ?_
    refine w_iRng1 ?_
    refine w_args (va_cons (val_var rfl) va_nil) ?_
    obtain ⟨g8, hg8, hm⟩ := Mi.bnd hm
    obtain ⟨e9, he9, hm⟩ := Mi.bnd hm
    refine l_rng1 hg8 (fun i σ' H' => ∃ (s10 : ((List Int) × (List (Int × Int × (List Int) × Int × Bool)))) (y15 : Option V) (y16 : Option V) (y17 : Option V) (y18 : Option V) (y19 : Option V) (v11 : V) (F13 : List Addr), σ' = [some v0, some (.int d1), some (.int d2), some (.int d3), some v11, y15, y16, y17, y18, y19] ∧ Chg (F0) H0 H' ∧ (yLst yInt).rep K H' F0 v0 s10.1 ∧ (yLsg (yTup (sCons yInt (sCons yInt (sCons (yLst yInt) (sCons yInt (sOne yBool))))))).rep K H' F13 v11 s10.2 ∧ (∀ a ∈ F13, H0 a = none) ∧ Dj F13 F0 ∧ Mi.forN (Mi.m_l_wild_b1 d2 d3) s10 (List.drop i g8) = some e9) ⟨(d0, ([] : (List (Int × Int × (List Int) × Int × Bool)))), none, none, none, none, none, (.ref p1), [p1], rfl, c0, r0, r3, n7, d6.symm, he9⟩ (fun i23 x22 σ' H' hx21 hp => ?_) (fun σ' H' hp => ?_)
    ·
      obtain ⟨s10, y15, y16, y17, y18, y19, v11, F13, rfl, c0, r0, r12, n14, d20, hle9⟩ := hp
      obtain ⟨_, hbe9, hle9⟩ := Mi.forN_go hle9 hx21
      unfold Mi.m_l_wild_b1 at hbe9
      refine g_name (σ' := [some v0, some (.int d1), some (.int d2), some (.int d3), some v11, some (.int x22), y16, y17, y18, y19]) rfl ?_
      refine q_asg ?_
      refine w_call ?_
      refine w_args (va_cons (val_var rfl) (va_cons val_c va_nil)) ?_
      obtain ⟨q24, hq24, hbe9⟩ := Mi.bnd hbe9
      refine ⟨v0, F0, s10.1, (12 : Int), q24, rfl, r0, hq24, fun H26 c25 r0 => ?_⟩
      have r12 := Ty.chg r12 c25 d20
      have c0 := c0.join c25 (fun a h => .inl (h))
      refine g_name (σ' := [some v0, some (.int d1), some (.int d2), some (.int d3), some v11, some (.int x22), some (.int q24.1), y17, y18, y19]) rfl ?_
      refine q_asg ?_
      refine w_call ?_
      refine w_args (va_cons (val_var rfl) (va_cons val_c va_nil)) ?_
      obtain ⟨q27, hq27, hbe9⟩ := Mi.bnd hbe9
      refine ⟨v0, F0, q24.2, (100 : Int), q27, rfl, r0, hq27, fun H29 c28 r0 => ?_⟩
      have r12 := Ty.chg r12 c28 d20
      have c0 := c0.join c28 (fun a h => .inl (h))
      refine g_name (σ' := [some v0, some (.int d1), some (.int d2), some (.int d3), some v11, some (.int x22), some (.int q24.1), some (.int q27.1), y18, y19]) rfl ?_
      refine q_asg ?_
      refine w_call ?_
      refine w_cons ?_
      refine w_call ?_
      refine w_args (va_cons (val_var rfl) (va_cons val_c va_nil)) ?_
      obtain ⟨q30, hq30, hbe9⟩ := Mi.bnd hbe9
      refine ⟨v0, F0, q27.2, (24576 : Int), q30, rfl, r0, hq30, fun H32 c31 r0 => ?_⟩
      have r12 := Ty.chg r12 c31 d20
      have c0 := c0.join c31 (fun a h => .inl (h))
      refine w_nil ?_
      obtain ⟨q33, hq33, hbe9⟩ := Mi.bnd hbe9
      refine ⟨q30.1, q33, rfl, hq33, fun v36 H35 F38 c34 r37 fr39  => ?_⟩
      have d40 : Dj F0 F38 := Ty.fresh r0 fr39
      have d41 : Dj F13 F38 := Ty.fresh r12 fr39
      have n42 : ∀ a ∈ F38, H0 a = none := fun a h => c0.dom a (fr39 a h)
      have r0 := Ty.ex r0 c34
      have r12 := Ty.ex r12 c34
      have c0 := c0.trans c34.none
      refine g_name (σ' := [some v0, some (.int d1), some (.int d2), some (.int d3), some v11, some (.int x22), some (.int q24.1), some (.int q27.1), some v36, y19]) rfl ?_
      refine q_asg ?_
      refine w_call ?_
      refine w_args (va_cons (val_var rfl) (va_cons val_c va_nil)) ?_
      obtain ⟨q43, hq43, hbe9⟩ := Mi.bnd hbe9
      refine ⟨v0, F0, q30.2, (198 : Int), q43, rfl, r0, hq43, fun H45 c44 r0 => ?_⟩
      have r12 := Ty.chg r12 c44 d20
      have r37 := Ty.chg r37 c44 d40.symm
      have c0 := c0.join c44 (fun a h => .inl (h))
      refine g_name (σ' := [some v0, some (.int d1), some (.int d2), some (.int d3), some v11, some (.int x22), some (.int q24.1), some (.int q27.1), some v36, some (.int q43.1)]) rfl ?_
      obtain ⟨s46, hs46, hbe9⟩ := Mi.bnd hbe9
      refine s_join (R := fun σ' H' => σ' = [some v0, some (.int d1), some (.int d2), some (.int d3), some v11, some (.int x22), some (.int s46), some (.int q27.1), some v36, some (.int q43.1)] ∧ Chg (F0) H0 H' ∧ (yLst yInt).rep K H' F0 v0 q43.2 ∧ (yLsg (yTup (sCons yInt (sCons yInt (sCons (yLst yInt) (sCons yInt (sOne yBool))))))).rep K H' F13 v11 s10.2 ∧ (yLst yInt).rep K H' F38 v36 q33) (fun nx kx => ?_) (fun σ' H' hj => ?_)
      ·
        refine s_if (ans_t (val_gt (val_var rfl) val_c)) (fun hb => ?_) (fun hb => ?_)
        ·
          replace hs46 := Mi.ifT hb hs46
          obtain ⟨who47, hwho47, hs46⟩ := Mi.letE hs46
          refine q_setE (val_var rfl) (congrArg V.int hwho47) (σ' := [some v0, some (.int d1), some (.int d2), some (.int d3), some v11, some (.int x22), some (.int who47), some (.int q27.1), some v36, some (.int q43.1)]) rfl ?_
          refine w_nextJ ?_
          obtain rfl := Option.some.inj hs46
          exact kx _ _ ⟨rfl, c0, r0, r12, r37⟩
        ·
          replace hs46 := Mi.ifF hb hs46
          refine w_nextJ ?_
          obtain rfl := Option.some.inj hs46
          exact kx _ _ ⟨rfl, c0, r0, r12, r37⟩
      obtain ⟨rfl, c0, r0, r12, r37⟩ := hj
      obtain ⟨s48, hs48, hbe9⟩ := Mi.bnd hbe9
      refine s_join (R := fun σ' H' => σ' = [some v0, some (.int d1), some (.int d2), some (.int d3), some v11, some (.int x22), some (.int s46), some (.int s48), some v36, some (.int q43.1)] ∧ Chg (F0) H0 H' ∧ (yLst yInt).rep K H' F0 v0 q43.2 ∧ (yLsg (yTup (sCons yInt (sCons yInt (sCons (yLst yInt) (sCons yInt (sOne yBool))))))).rep K H' F13 v11 s10.2 ∧ (yLst yInt).rep K H' F38 v36 q33) (fun nx kx => ?_) (fun σ' H' hj => ?_)
      ·
        refine s_if (ans_t (val_lt (val_var rfl) val_c)) (fun hb => ?_) (fun hb => ?_)
        ·
          replace hs48 := Mi.ifT hb hs48
          obtain ⟨x49, hx49, hs48⟩ := Mi.bnd hs48
          obtain ⟨when50, hwhen50, hs48⟩ := Mi.letE hs48
          refine q_setE (val_mod (val_int (val_var rfl)) (val_add (val_var rfl) val_c) hx49) (congrArg V.int hwhen50) (σ' := [some v0, some (.int d1), some (.int d2), some (.int d3), some v11, some (.int x22), some (.int s46), some (.int when50), some v36, some (.int q43.1)]) rfl ?_
          refine w_nextJ ?_
          obtain rfl := Option.some.inj hs48
          exact kx _ _ ⟨rfl, c0, r0, r12, r37⟩
        ·
          replace hs48 := Mi.ifF hb hs48
          obtain ⟨when51, hwhen51, hs48⟩ := Mi.letE hs48
          refine q_setE (val_sub (val_var rfl) val_c) (congrArg V.int hwhen51) (σ' := [some v0, some (.int d1), some (.int d2), some (.int d3), some v11, some (.int x22), some (.int s46), some (.int when51), some v36, some (.int q43.1)]) rfl ?_
          refine w_nextJ ?_
          obtain rfl := Option.some.inj hs48
          exact kx _ _ ⟨rfl, c0, r0, r12, r37⟩
      obtain ⟨rfl, c0, r0, r12, r37⟩ := hj
      refine q_drop (w_bm (c_val (val_var rfl) ⟨tyv_lsg r12, ?_⟩))
      refine w_cons ?_
      refine w_tup ?_
      refine w_args (va_cons (val_var rfl) (va_cons (val_var rfl) (va_cons (val_var rfl) (va_cons (val_add val_c (val_divc (val_var rfl) val_c ⟨by decide, by decide⟩)) (va_cons (val_eqI (val_modc (val_int (val_var rfl)) val_c (by decide)) val_c) va_nil))))) ?_
      refine e_tup (K := K) (ty := (sCons yInt (sCons yInt (sCons (yLst yInt) (sCons yInt (sOne yBool)))))) (F := ([] ++ ([] ++ (F38 ++ ([] ++ []))))) (d := (s46, s48, q33, ((1 : Int) + (q43.1 / (2 : Int))), (decide ((q43.1 % (2 : Int)) = (0 : Int))))) (by exact Nat.le_of_ble_eq_true rfl) ⟨_, _, _, _, rfl, rfl, yInt_i, ⟨_, _, _, _, rfl, rfl, yInt_i, ⟨_, _, _, _, rfl, rfl, r37, ⟨_, _, _, _, rfl, rfl, yInt_i, ⟨_, rfl, yBool_i⟩⟩⟩⟩⟩ fun p52 H56 np55 c53 r54 => ?_
      have r0 := Ty.ex r0 c53
      have r12 := Ty.ex r12 c53
      have r37 := Ty.ex r37 c53
      have c0 := c0.trans c53.none
      have d57 : Dj ([] ++ ([] ++ (F38 ++ ([] ++ [])))) F0 := (Dj.app (Dj.nil) ((Dj.app (Dj.nil) ((Dj.app (d40.symm) ((Dj.app (Dj.nil) (Dj.nil))))))))
      have d58 : Dj ([] ++ ([] ++ (F38 ++ ([] ++ [])))) F13 := (Dj.app (Dj.nil) ((Dj.app (Dj.nil) ((Dj.app (d41.symm) ((Dj.app (Dj.nil) (Dj.nil))))))))
      refine w_nil ?_
      obtain ⟨x59, hx59, hbe9⟩ := Mi.bnd hbe9
      refine m_appG r12 r54 (ap_of r12 (d58.symm)) hx59 fun H63 F64 c62 r12 sa65 sb66 => ?_
      have r0 := Ty.chg r0 c62 d20.symm
      have r37 := Ty.chg r37 c62 d41.symm
      have r54 := Ty.chg r54 c62 d58
      have c0 := c0.join c62 (fun a h => .inr (n14 a h))
      have d67 : Dj F0 F64 := Dj.grow (d20.symm) (d57.symm) sb66
      have n68 : ∀ a ∈ F64, H0 a = none := fresh_grow n14 (app_fresh nil_fresh (app_fresh nil_fresh (app_fresh n42 (app_fresh nil_fresh nil_fresh)))) sb66
      refine w_nextJ ?_
      obtain rfl := Option.some.inj hbe9
      exact ⟨_, (some (.int x22)), (some (.int s46)), (some (.int s48)), (some v36), (some (.int q43.1)), v11, F64, rfl, c0, r0, r12, n68, d67.symm, hle9⟩
    obtain ⟨s10, y15, y16, y17, y18, y19, v11, F13, rfl, c0, r0, r12, n14, d20, hle9⟩ := hp
    obtain rfl := Mi.forN_end hle9
    refine q_ret ?_
    refine c_val (val_var rfl) ?_
    obtain rfl := Option.some.inj hm
    exact hQ _ _ _ c0 r12 n14 r0
abbrev s_l_due : Stmt := topS 19
abbrev N_l_due : List Str := ["_law_notes", "_law_ship", "_law_path", "_law_found", "_law_k"]
theorem sc_l_due : FnScope ["_law_notes", "_law_ship", "_law_path", "_law_found", "_law_k"] ["_law_notes", "_law_ship", "_law_path"] (defScope s_l_due) := ⟨rfl, rfl, rfl, by decide +kernel, rfl, by decide +kernel, by decide +kernel⟩
def sp_l_due (K : PySem.W.Frag) : Sp := fun vs H Q _ => ∃ (v0 : V) (F0 : List Addr) (d0 : (List (Int × Int × (List Int) × Int × Bool))) (d1 : Int) (v2 : V) (F2 : List Addr) (d2 : (List Int)) (r : (List Int)), vs = [v0, (.int d1), v2] ∧ (yLsg (yTup (sCons yInt (sCons yInt (sCons (yLst yInt) (sCons yInt (sOne yBool))))))).rep K H F0 v0 d0 ∧ (yLst yInt).rep K H F2 v2 d2 ∧ Mi.m_l_due d0 d1 d2 = some r ∧ ∀ v H' F, Chg ([]) H H' → (yLst yInt).rep K H' F v r → (∀ a ∈ F, H a = none) → Q v H'
theorem ok_l_due (B : Bi mg) (CN : Cs mg) (D : Dfn K mg "_law_due" s_l_due)  : Cal P w K mg "_law_due" ["_law_notes", "_law_ship", "_law_path"] 1 (sp_l_due K) := by
  obtain ⟨f, fd, F, g⟩ := D.ex
  refine ⟨f, fd, g, F.kp, bindsF F (fun _ _ _ _ _ _ us hl => match us, hl with | [_, _, _], _ => rfl), fun base => F.ok sc_l_due (fun vs H Q E h => ?_) (fun cdv A outer s H0 vs Q E hr h => ?_)⟩
  · obtain ⟨v0, F0, d0, d1, v2, F2, d2, r, rfl, r0, r2, hm, hQ⟩ := h; rfl
  ·
    obtain ⟨v0, F0, d0, d1, v2, F2, d2, r, rfl, r0, r2, hm, hQ⟩ := h
    refine ⟨_, pss_cons (ps_set (i := 3) sc_l_due.nd rfl (.inl rfl) (pe_lst pa_nil))
      (pss_cons (ps_for PassesOwn.never rfl (pi_range1 (by rfl) B.range (pa_cons (pe_callB (cl_len (K := K)) (by rfl) B.len PySem.boot_len (pa_cons (pv 0) pa_nil)) pa_nil)) (pg_name (i := 4) sc_l_due.nd rfl (.inl rfl)) (pss_cons (ps_if (PW.pt (pw_and (pt_cmpR op_eq (pe_ix (ix_t (K := K)) (pe_ix (ix_l (K := K)) (pv 0) (pv 4) (fun _ _ => rfl)) pe_int (fun _ _ => rfl)) (pv 1) (nomark _)) (pw_and1 (pt_cmpR op_lt (pe_ix (ix_t (K := K)) (pe_ix (ix_l (K := K)) (pv 0) (pv 4) (fun _ _ => rfl)) pe_int (fun _ _ => rfl)) (pe_callB (cl_len (K := K)) (by rfl) B.len PySem.boot_len (pa_cons (pv 2) pa_nil)) (nomark _))))) (pss_cons (ps_if (pt_cmpR op_ne (pe_cmpR (op_in_q (K := K)) (pe_ix (ix_l (K := K)) (pv 2) (pe_ix (ix_t (K := K)) (pe_ix (ix_l (K := K)) (pv 0) (pv 4) (fun _ _ => rfl)) pe_int (fun _ _ => rfl)) (fun _ _ => rfl)) (pe_ix (ix_t (K := K)) (pe_ix (ix_l (K := K)) (pv 0) (pv 4) (fun _ _ => rfl)) pe_int (fun _ _ => rfl)) (by rfl)) (pe_ix (ix_t (K := K)) (pe_ix (ix_l (K := K)) (pv 0) (pv 4) (fun _ _ => rfl)) pe_int (fun _ _ => rfl)) (nomark _)) (pss_cons (ps_expr (pe_bm PySem.F.plainAttrs_list PySem.F.slot_list_append PySem.F.type_list_append mt_append (pv 3) (pa_cons (pv 4) pa_nil)))
      (pss_nil)) (pss_nil))
      (pss_nil)) (pss_nil))
      (pss_nil)))
      (pss_cons (ps_ret (pv 3)) pss_nil)), ?_⟩
    have c0 : Chg ([] : List Addr) H0 H0 := Chg.refl H0
    unfold Mi.m_l_due at hm
    refine q_asg ?_
    refine w_lst ?_
    refine w_args va_nil ?_
    refine e_lst (K := K) (τ := yInt) (by exact Nat.le_of_ble_eq_true rfl) .nil fun p1 H5 np4 c2 r3 => ?_
    have d6 : Dj F0 [p1] := Ty.nin r0 np4
    have d7 : Dj F2 [p1] := Ty.nin r2 np4
    have n8 : ∀ a ∈ [p1], H0 a = none := one_fresh (c0.dom p1 np4)
    have r0 := Ty.ex r0 c2
    have r2 := Ty.ex r2 c2
    have c0 := c0.trans c2.none
    refine g_name (σ' := [some v0, some (.int d1), some v2, some (.ref p1), none]) rfl ?_
    refine q_for ?_
    refine w_iRng1 ?_
    refine w_args (va_cons (val_lenG r0 (val_var rfl)) va_nil) ?_
    obtain ⟨g9, hg9, hm⟩ := Mi.bnd hm
    obtain ⟨e10, he10, hm⟩ := Mi.bnd hm
    refine l_rng1 hg9 (fun i σ' H' => ∃ (s11 : (List Int)) (y12 : Option V), σ' = [some v0, some (.int d1), some v2, some (.ref p1), y12] ∧ Chg ([] : List Addr) H0 H' ∧ (yLsg (yTup (sCons yInt (sCons yInt (sCons (yLst yInt) (sCons yInt (sOne yBool))))))).rep K H' F0 v0 d0 ∧ (yLst yInt).rep K H' F2 v2 d2 ∧ (yLst yInt).rep K H' [p1] (.ref p1) s11 ∧ Mi.forN (Mi.m_l_due_b1 d0 d1 d2) s11 (List.drop i g9) = some e10) ⟨([] : (List Int)), none, rfl, c0, r0, r2, r3, he10⟩ (fun i15 x14 σ' H' hx13 hp => ?_) (fun σ' H' hp => ?_)
    ·
      obtain ⟨s11, y12, rfl, c0, r0, r2, r3, hle10⟩ := hp
      obtain ⟨_, hbe10, hle10⟩ := Mi.forN_go hle10 hx13
      unfold Mi.m_l_due_b1 at hbe10
      refine g_name (σ' := [some v0, some (.int d1), some v2, some (.ref p1), some (.int x14)]) rfl ?_
      obtain ⟨s16, hs16, hbe10⟩ := Mi.bnd hbe10
      refine s_join (R := fun σ' H' => σ' = [some v0, some (.int d1), some v2, some (.ref p1), some (.int x14)] ∧ Chg ([] : List Addr) H0 H' ∧ (yLsg (yTup (sCons yInt (sCons yInt (sCons (yLst yInt) (sCons yInt (sOne yBool))))))).rep K H' F0 v0 d0 ∧ (yLst yInt).rep K H' F2 v2 d2 ∧ (yLst yInt).rep K H' [p1] (.ref p1) s16) (fun nx kx => ?_) (fun σ' H' hj => ?_)
      ·
        obtain ⟨x17, hx17, hs16⟩ := Mi.bnd hs16
        obtain ⟨u18, F19, r20, su21, ap22, kx23, ku24⟩ := itm_G r0 hx17
        have d25 : Dj F19 [p1] := Dj.sub (d6) su21
        obtain ⟨u26, F27, r28, su29, kx30, ku31⟩ := itm_tup (n := 0) at0 r20
        obtain ⟨rfl, rfl⟩ := r28
        obtain ⟨b48, hb48, hs16⟩ := Mi.bnd hs16
        refine s_if (ans_andO (ans_t (val_eqI (ku31 (ku24 (val_var rfl) (val_var rfl)) val_c) (val_var rfl))) hb48 (fun hs32 => by (obtain ⟨x33, hx33, hs32⟩ := Mi.bnd hs32; obtain ⟨u34, F35, r36, su37, ap38, kx39, ku40⟩ := itm_G r0 hx33; have d41 : Dj F35 [p1] := Dj.sub (d6) su37; obtain ⟨u42, F43, r44, su45, kx46, ku47⟩ := itm_tup (n := 1) (atS at0) r36; obtain ⟨rfl, rfl⟩ := r44; cases hs32; exact (ans_t (val_lt (ku47 (ku40 (val_var rfl) (val_var rfl)) val_c) (val_lenL r2 (val_var rfl))))))) (fun hb => ?_) (fun hb => ?_)
        ·
          replace hs16 := Mi.ifT hb hs16
          obtain ⟨s49, hs49, hs16⟩ := Mi.bnd hs16
          refine s_join (R := fun σ' H' => σ' = [some v0, some (.int d1), some v2, some (.ref p1), some (.int x14)] ∧ Chg ([] : List Addr) H0 H' ∧ (yLsg (yTup (sCons yInt (sCons yInt (sCons (yLst yInt) (sCons yInt (sOne yBool))))))).rep K H' F0 v0 d0 ∧ (yLst yInt).rep K H' F2 v2 d2 ∧ (yLst yInt).rep K H' [p1] (.ref p1) s49) (fun nx kx => ?_) (fun σ' H' hj => ?_)
          ·
            obtain ⟨x50, hx50, hs49⟩ := Mi.bnd hs49
            obtain ⟨u51, F52, r53, su54, ap55, kx56, ku57⟩ := itm_G r0 hx50
            have d58 : Dj F52 [p1] := Dj.sub (d6) su54
            obtain ⟨u59, F60, r61, su62, kx63, ku64⟩ := itm_tup (n := 1) (atS at0) r53
            obtain ⟨rfl, rfl⟩ := r61
            obtain ⟨x65, hx65, hs49⟩ := Mi.bnd hs49
            obtain ⟨x66, hx66, hs49⟩ := Mi.bnd hs49
            obtain ⟨u67, F68, r69, su70, ap71, kx72, ku73⟩ := itm_G r0 hx66
            have d74 : Dj F68 [p1] := Dj.sub (d6) su70
            obtain ⟨u75, F76, r77, su78, kx79, ku80⟩ := itm_tup (n := 2) (atS (atS at0)) r69
            have d81 : Dj F76 [p1] := Dj.sub (d74) su78
            obtain ⟨x82, hx82, hs49⟩ := Mi.bnd hs49
            obtain ⟨u83, F84, r85, su86, ap87, kx88, ku89⟩ := itm_G r0 hx82
            have d90 : Dj F84 [p1] := Dj.sub (d6) su86
            obtain ⟨u91, F92, r93, su94, kx95, ku96⟩ := itm_tup (n := 4) (atS (atS (atS (atS at1)))) r85
            obtain ⟨rfl, rfl⟩ := r93
            refine s_if (ans_t (val_neB (val_inL r77 (itm_LI r2 hx65 (val_var rfl) (ku64 (ku57 (val_var rfl) (val_var rfl)) val_c)) (ku80 (ku73 (val_var rfl) (val_var rfl)) val_c)) (ku96 (ku89 (val_var rfl) (val_var rfl)) val_c))) (fun hb => ?_) (fun hb => ?_)
            ·
              replace hs49 := Mi.ifT hb hs49
              refine q_drop (w_bm (c_val (val_var rfl) ⟨tyv_lst r3, ?_⟩))
              refine w_args (va_cons (val_var rfl) va_nil) ?_
              obtain ⟨x97, hx97, hs49⟩ := Mi.bnd hs49
              refine m_app r3 yInt_i hx97 fun H99 c98 r3 => ?_
              have r0 := Ty.chg r0 c98 d6
              have r2 := Ty.chg r2 c98 d7
              have c0 := c0.join c98 (fun a h => .inr (n8 a h))
              refine w_nextJ ?_
              obtain rfl := Option.some.inj hs49
              exact kx _ _ ⟨rfl, c0, r0, r2, r3⟩
            ·
              replace hs49 := Mi.ifF hb hs49
              refine w_nextJ ?_
              obtain rfl := Option.some.inj hs49
              exact kx _ _ ⟨rfl, c0, r0, r2, r3⟩
          obtain ⟨rfl, c0, r0, r2, r3⟩ := hj
          refine w_nextJ ?_
          obtain rfl := Option.some.inj hs16
          exact kx _ _ ⟨rfl, c0, r0, r2, r3⟩
        ·
          replace hs16 := Mi.ifF hb hs16
          refine w_nextJ ?_
          obtain rfl := Option.some.inj hs16
          exact kx _ _ ⟨rfl, c0, r0, r2, r3⟩
      obtain ⟨rfl, c0, r0, r2, r3⟩ := hj
      refine w_nextJ ?_
      obtain rfl := Option.some.inj hbe10
      exact ⟨_, (some (.int x14)), rfl, c0, r0, r2, r3, hle10⟩
    obtain ⟨s11, y12, rfl, c0, r0, r2, r3, hle10⟩ := hp
    obtain rfl := Mi.forN_end hle10
    refine q_ret ?_
    refine c_val (val_var rfl) ?_
    obtain rfl := Option.some.inj hm
    exact hQ _ _ _ c0 r3 n8 
abbrev s_l_are_numbers : Stmt := topS 20
abbrev N_l_are_numbers : List Str := ["_law_told", "_law_due_here", "_law_x"]
theorem sc_l_are_numbers : FnScope ["_law_told", "_law_due_here", "_law_x"] ["_law_told", "_law_due_here"] (defScope s_l_are_numbers) := ⟨rfl, rfl, rfl, by decide +kernel, rfl, by decide +kernel, by decide +kernel⟩
def sp_l_are_numbers (K : PySem.W.Frag) : Sp := fun vs H Q _ => ∃ (v0 : V) (F0 : List Addr) (d0 : (List Int)) (v1 : V) (F1 : List Addr) (d1 : (List Int)) (r : Bool), vs = [v0, v1] ∧ (yLst yInt).rep K H F0 v0 d0 ∧ (yLst yInt).rep K H F1 v1 d1 ∧ Mi.m_l_are_numbers d0 d1 = some r ∧ ∀ H', Chg ([]) H H' → Q (.bl r) H'
theorem ok_l_are_numbers (B : Bi mg) (CN : Cs mg) (D : Dfn K mg "_law_are_numbers" s_l_are_numbers) (C_l_int : Cal P w K mg "_law_int" ["_law_x"] 1 (sp_l_int K)) : Cal P w K mg "_law_are_numbers" ["_law_told", "_law_due_here"] 2 (sp_l_are_numbers K) := by
  obtain ⟨f, fd, F, g⟩ := D.ex
  refine ⟨f, fd, g, F.kp, bindsF F (fun _ _ _ _ _ _ us hl => match us, hl with | [_, _], _ => rfl), fun base => F.ok sc_l_are_numbers (fun vs H Q E h => ?_) (fun cdv A outer s H0 vs Q E hr h => ?_)⟩
  · obtain ⟨v0, F0, d0, v1, F1, d1, r, rfl, r0, r1, hm, hQ⟩ := h; rfl
  ·
    obtain ⟨v0, F0, d0, v1, F1, d1, r, rfl, r0, r1, hm, hQ⟩ := h
    refine ⟨_, pss_cons (ps_ret (pe_and (pe_callB (cl_isi (K := K)) (by rfl) B.isinstance (by decide +kernel) (pa_cons (pv 0) (pa_cons (pe_bltn (v := .ty "list") (by rfl) B.list (by decide +kernel) rfl) pa_nil))) (pe_and (pe_cmpR op_eq (pe_callB (cl_len (K := K)) (by rfl) B.len PySem.boot_len (pa_cons (pe_lc (own := [("_law_x", 2)]) rfl sc_l_are_numbers.nd (pi_list (pv 0)) (blkOk_by (own := [("_law_x", 2)]) (N := N_l_are_numbers) (sc := defScope s_l_are_numbers) (by decide +kernel)) (fun _ _ _ _ _ => (pg_name (i := 2) sc_l_are_numbers.nd rfl (.inl rfl))) (fun _ _ _ _ _ => (pts_one (pt_not (pt_val (pe_cc C_l_int hr (pa_cons (pv 2) pa_nil)))))) (fun _ _ _ _ _ => (pv 2))) pa_nil)) pe_int (nomark _)) (pe_one (pe_cmpR (op_eq_d hr.units) (pv 0) (pv 1) (nomark _)))))) pss_nil, ?_⟩
    have c0 : Chg ([] : List Addr) H0 H0 := Chg.refl H0
    unfold Mi.m_l_are_numbers at hm
    refine q_ret ?_
    obtain ⟨b1, hb1, hm⟩ := Mi.bnd hm
    refine j_te (.bl b1) (R := fun H' => Chg ([] : List Addr) H0 H' ∧ (yLst yInt).rep K H' F0 v0 d0 ∧ (yLst yInt).rep K H' F1 v1 d1) (fun Q' kq => ?_) (fun H' hj => ?_)
    ·
      refine w_andV ?_
      refine c_val (val_isi (val_var rfl) (ty_lst r0) (n := "list") (m := "list") (b := true) (by decide +kernel)) ?_
      refine ⟨_, rfl, ?_⟩
      refine c_if (fun hb => ?_) (fun hb => ?_)
      rotate_left
      ·
        replace hb1 := Mi.ifF hb hb1
        obtain rfl := Option.some.inj hb1
        exact kq _ ⟨c0, r0, r1⟩
      replace hb1 := Mi.ifT hb hb1
      refine w_andV ?_
      refine w_op ?_
      refine w_cb ?_
      refine w_cons ?_
      refine w_lc ?_
      refine w_iList ?_
      refine c_val (val_var rfl) ?_
      obtain ⟨e2, he2, hb1⟩ := Mi.bnd hb1
      refine kc_lst (K := K) (τ := yInt) r0 (fun D4 i H' => ∃ (s3 : (List Int)), Chg ([] : List Addr) H0 H' ∧ (yLst yInt).rep K H' F0 v0 d0 ∧ (yLst yInt).rep K H' F1 v1 d1 ∧ (yLst yInt).rep K H' [D4] (.ref D4) s3 ∧ Dj F0 [D4] ∧ Dj F1 [D4] ∧ (∀ a ∈ [D4], H0 a = none) ∧ Mi.forN (Mi.m_l_are_numbers_b1) s3 (List.drop i d0) = some e2) (fun D4 H11 np10 c9 r5 => ⟨([] : (List Int)), c0.trans c9.none, (Ty.ex r0 c9), (Ty.ex r1 c9), r5, Ty.nin r0 np10, Ty.nin r1 np10, one_fresh (c0.dom D4 np10), he2⟩) (fun D4 i H' hp => by obtain ⟨s3, c0, r0, r1, r5, d6, d7, n8, _⟩ := hp; exact r0) (fun D4 i14 x13 u16 H15 hx12 r17 hp => ?_) (fun D4 H' np10 hp => ?_)
      ·
        obtain ⟨s3, c0, r0, r1, r5, d6, d7, n8, hle2⟩ := hp
        obtain ⟨_, hbe2, hle2⟩ := Mi.forN_go hle2 hx12
        unfold Mi.m_l_are_numbers_b1 at hbe2
        obtain ⟨_, rfl⟩ := r17
        refine g_name (σ' := [some v0, some v1, some (.int x13)]) rfl ?_
        refine ⟨rfl, ?_⟩
        refine w_not ?_
        refine w_B ?_
        refine w_call ?_
        refine w_args (va_cons (val_var rfl) va_nil) ?_
        obtain ⟨q20, hq20, hbe2⟩ := Mi.bnd hbe2
        refine ⟨x13, q20, rfl, hq20, fun H22 c21  => ?_⟩
        have r0 := Ty.ex r0 c21
        have r1 := Ty.ex r1 c21
        have r5 := Ty.ex r5 c21
        have c0 := c0.trans c21.none
        refine ⟨_, rfl, ?_⟩
        refine c_if (fun hb => ?_) (fun hb => ?_)
        ·
          replace hbe2 := Mi.ifT hb hbe2
          refine c_val (val_var rfl) ?_
          obtain ⟨x23, hx23, hbe2⟩ := Mi.bnd hbe2
          refine e_app r5 yInt_i hx23 fun H25 c24 r5 => ?_
          have r0 := Ty.chg r0 c24 d6
          have r1 := Ty.chg r1 c24 d7
          have c0 := c0.join c24 (fun a h => .inr (n8 a h))
          obtain rfl := Option.some.inj hbe2
          exact ⟨_, c0, r0, r1, r5, d6, d7, n8, hle2⟩
        ·
          replace hbe2 := Mi.ifF hb hbe2
          obtain rfl := Option.some.inj hbe2
          exact ⟨_, c0, r0, r1, r5, d6, d7, n8, hle2⟩
      obtain ⟨s3, c0, r0, r1, r5, d6, d7, n8, hle2⟩ := hp
      obtain rfl := Mi.forN_end hle2
      refine w_nil ?_
      refine w_lenL r5 ?_
      refine c_val val_c ?_
      refine w_eqI ?_
      refine ⟨_, rfl, ?_⟩
      refine c_if (fun hb => ?_) (fun hb => ?_)
      rotate_left
      ·
        replace hb1 := Mi.ifF hb hb1
        obtain rfl := Option.some.inj hb1
        exact kq _ ⟨c0, r0, r1⟩
      replace hb1 := Mi.ifT hb hb1
      refine w_op ?_
      refine c_val (val_var rfl) ?_
      refine c_val (val_var rfl) ?_
      refine w_eqD (τ := (yLst yInt)) (dat_lst dat_int) r0 r1 ?_
      obtain rfl := Option.some.inj hb1
      exact kq _ ⟨c0, r0, r1⟩
    obtain ⟨c0, r0, r1⟩ := hj
    obtain rfl := Option.some.inj hm
    exact hQ _ c0 
abbrev s_l_stays : Stmt := topS 21
abbrev N_l_stays : List Str := ["_law_handed", "_law_notes", "_law_one"]
theorem sc_l_stays : FnScope ["_law_handed", "_law_notes", "_law_one"] ["_law_handed", "_law_notes"] (defScope s_l_stays) := ⟨rfl, rfl, rfl, by decide +kernel, rfl, by decide +kernel, by decide +kernel⟩
def sp_l_stays (K : PySem.W.Frag) (C_Report : Addr) : Sp := fun vs H Q _ => ∃ (v0 : V) (F0 : List Addr) (d0 : (List (Int × Int × (List Int) × Int × Bool))) (v1 : V) (F1 : List Addr) (d1 : (List (Int × Int × (List Int) × Int × Bool))) (r : Bool), vs = [v0, v1] ∧ (yLst (yObj C_Report nm_Report ty_Report)).rep K H F0 v0 d0 ∧ (yLsg (yTup (sCons yInt (sCons yInt (sCons (yLst yInt) (sCons yInt (sOne yBool))))))).rep K H F1 v1 d1 ∧ Mi.m_l_stays d0 d1 = some r ∧ ∀ H', Chg ([]) H H' → Q (.bl r) H'
theorem ok_l_stays (B : Bi mg) (CN : Cs mg) (D : Dfn K mg "_law_stays" s_l_stays) {C_Report : Addr} (T_Report : Tx K mg C_Report "Report" nm_Report) : Cal P w K mg "_law_stays" ["_law_handed", "_law_notes"] 1 (sp_l_stays K C_Report) := by
  obtain ⟨f, fd, F, g⟩ := D.ex
  refine ⟨f, fd, g, F.kp, bindsF F (fun _ _ _ _ _ _ us hl => match us, hl with | [_, _], _ => rfl), fun base => F.ok sc_l_stays (fun vs H Q E h => ?_) (fun cdv A outer s H0 vs Q E hr h => ?_)⟩
  · obtain ⟨v0, F0, d0, v1, F1, d1, r, rfl, r0, r1, hm, hQ⟩ := h; rfl
  ·
    obtain ⟨v0, F0, d0, v1, F1, d1, r, rfl, r0, r1, hm, hQ⟩ := h
    refine ⟨_, pss_cons (ps_ret (pe_cmpR (op_eq_d hr.units) (pe_lc (own := [("_law_one", 2)]) rfl sc_l_stays.nd (pi_list (pv 0)) (blkOk_by (own := [("_law_one", 2)]) (N := N_l_stays) (sc := defScope s_l_stays) (by decide +kernel)) (fun _ _ _ _ _ => (pg_name (i := 2) sc_l_stays.nd rfl (.inl rfl))) (fun _ _ _ _ _ => pts_nil) (fun _ _ _ _ _ => (pe_tup (pa_cons (pe_fldk (K := K) (pv 2) (by rfl)) (pa_cons (pe_fldk (K := K) (pv 2) (by rfl)) (pa_cons (pe_callTy (cl_list (K := K)) (by rfl) B.list (by decide +kernel) (pa_cons (pe_fldk (K := K) (pv 2) (by rfl)) pa_nil)) (pa_cons (pe_fldk (K := K) (pv 2) (by rfl)) (pa_cons (pe_fldk (K := K) (pv 2) (by rfl)) pa_nil)))))))) (pv 1) (nomark _))) pss_nil, ?_⟩
    have c0 : Chg ([] : List Addr) H0 H0 := Chg.refl H0
    unfold Mi.m_l_stays at hm
    refine q_ret ?_
    refine w_op ?_
    refine w_lc ?_
    refine w_iList ?_
    refine c_val (val_var rfl) ?_
    obtain ⟨e1, he1, hm⟩ := Mi.bnd hm
    refine kc_lst (K := K) (τ := yInt) r0 (fun D3 i H' => ∃ (s2 : (List (Int × Int × (List Int) × Int × Bool))) (F5 : List Addr), Chg ([] : List Addr) H0 H' ∧ (yLst (yObj C_Report nm_Report ty_Report)).rep K H' F0 v0 d0 ∧ (yLsg (yTup (sCons yInt (sCons yInt (sCons (yLst yInt) (sCons yInt (sOne yBool))))))).rep K H' F1 v1 d1 ∧ (yLsg (yTup (sCons yInt (sCons yInt (sCons (yLst yInt) (sCons yInt (sOne yBool))))))).rep K H' F5 (.ref D3) s2 ∧ Dj F0 F5 ∧ Dj F1 F5 ∧ (∀ a ∈ F5, H0 a = none) ∧ Mi.forN (Mi.m_l_stays_b1) s2 (List.drop i d0) = some e1) (fun D3 H11 np10 c9 r4 => ⟨([] : (List (Int × Int × (List Int) × Int × Bool))), [D3], c0.trans c9.none, (Ty.ex r0 c9), (Ty.ex r1 c9), lsg_nil r4, Ty.nin r0 np10, Ty.nin r1 np10, one_fresh (c0.dom D3 np10), he1⟩) (fun D3 i H' hp => by obtain ⟨s2, F5, c0, r0, r1, r4, d6, d7, n8, _⟩ := hp; exact r0) (fun D3 i14 x13 u16 H15 hx12 r17 hp => ?_) (fun D3 H' np10 hp => ?_)
    ·
      obtain ⟨s2, F5, c0, r0, r1, r4, d6, d7, n8, hle1⟩ := hp
      obtain ⟨_, hbe1, hle1⟩ := Mi.forN_go hle1 hx12
      unfold Mi.m_l_stays_b1 at hbe1
      refine g_name (σ' := [some v0, some v1, some u16]) rfl ?_
      refine ⟨rfl, ?_⟩
      refine w_yes ?_
      refine iteT ?_
      refine w_tup ?_
      refine w_cons ?_
      obtain ⟨u20, r21, kx22, ku23⟩ := fld_obj (n := 0) (f := "ship") at0 (by decide +kernel) rfl T_Report.cls (T_Report.na "ship" (by decide +kernel)) r17
      obtain ⟨_, rfl⟩ := r21
      refine c_val (ku23 (val_var rfl)) ?_
      refine w_cons ?_
      obtain ⟨u24, r25, kx26, ku27⟩ := fld_obj (n := 1) (f := "hour") (atS at0) (by decide +kernel) rfl T_Report.cls (T_Report.na "hour" (by decide +kernel)) r17
      obtain ⟨_, rfl⟩ := r25
      refine c_val (ku27 (val_var rfl)) ?_
      refine w_cons ?_
      refine w_cb ?_
      obtain ⟨u28, r29, kx30, ku31⟩ := fld_obj (n := 2) (f := "zone") (atS (atS at0)) (by decide +kernel) rfl T_Report.cls (T_Report.na "zone" (by decide +kernel)) r17
      refine w_args (va_cons (ku31 (val_var rfl)) va_nil) ?_
      refine w_listT r29 fun p32 H36 np35 c33 r34 => ?_
      have d37 : Dj F0 [p32] := Ty.nin r0 np35
      have d38 : Dj F1 [p32] := Ty.nin r1 np35
      have d39 : Dj F5 [p32] := Ty.nin r4 np35
      have n40 : ∀ a ∈ [p32], H0 a = none := one_fresh (c0.dom p32 np35)
      have r0 := Ty.ex r0 c33
      have r1 := Ty.ex r1 c33
      have r17 := Ty.fz r17 c33
      have r4 := Ty.ex r4 c33
      have r29 := Ty.fz r29 c33
      have c0 := c0.trans c33.none
      refine w_cons ?_
      obtain ⟨u41, r42, kx43, ku44⟩ := fld_obj (n := 3) (f := "weight") (atS (atS (atS at0))) (by decide +kernel) rfl T_Report.cls (T_Report.na "weight" (by decide +kernel)) r17
      obtain ⟨_, rfl⟩ := r42
      refine c_val (ku44 (val_var rfl)) ?_
      refine w_cons ?_
      obtain ⟨u45, r46, kx47, ku48⟩ := fld_obj (n := 4) (f := "inside") (atS (atS (atS (atS at1)))) (by decide +kernel) rfl T_Report.cls (T_Report.na "inside" (by decide +kernel)) r17
      obtain ⟨_, rfl⟩ := r46
      refine c_val (ku48 (val_var rfl)) ?_
      refine w_nil ?_
      refine e_tup (K := K) (ty := (sCons yInt (sCons yInt (sCons (yLst yInt) (sCons yInt (sOne yBool)))))) (F := ([] ++ ([] ++ ([p32] ++ ([] ++ []))))) (d := (x13.1, x13.2.1, x13.2.2.1, x13.2.2.2.1, x13.2.2.2.2)) (by exact Nat.le_of_ble_eq_true rfl) ⟨_, _, _, _, rfl, rfl, yInt_i, ⟨_, _, _, _, rfl, rfl, yInt_i, ⟨_, _, _, _, rfl, rfl, r34, ⟨_, _, _, _, rfl, rfl, yInt_i, ⟨_, rfl, yBool_i⟩⟩⟩⟩⟩ fun p49 H53 np52 c50 r51 => ?_
      have r0 := Ty.ex r0 c50
      have r1 := Ty.ex r1 c50
      have r17 := Ty.fz r17 c50
      have r4 := Ty.ex r4 c50
      have r34 := Ty.ex r34 c50
      have c0 := c0.trans c50.none
      have d54 : Dj ([] ++ ([] ++ ([p32] ++ ([] ++ [])))) F0 := (Dj.app (Dj.nil) ((Dj.app (Dj.nil) ((Dj.app (d37.symm) ((Dj.app (Dj.nil) (Dj.nil))))))))
      have d55 : Dj ([] ++ ([] ++ ([p32] ++ ([] ++ [])))) F1 := (Dj.app (Dj.nil) ((Dj.app (Dj.nil) ((Dj.app (d38.symm) ((Dj.app (Dj.nil) (Dj.nil))))))))
      have d56 : Dj ([] ++ ([] ++ ([p32] ++ ([] ++ [])))) F5 := (Dj.app (Dj.nil) ((Dj.app (Dj.nil) ((Dj.app (d39.symm) ((Dj.app (Dj.nil) (Dj.nil))))))))
      obtain ⟨x57, hx57, hbe1⟩ := Mi.bnd hbe1
      refine e_appG r4 r51 (ap_of r4 (d56.symm)) hx57 fun H61 F62 c60 r4 sa63 sb64 => ?_
      have r0 := Ty.chg r0 c60 d6
      have r1 := Ty.chg r1 c60 d7
      have r17 := Ty.fz r17 c60
      have r51 := Ty.chg r51 c60 d56
      have c0 := c0.join c60 (fun a h => .inr (n8 a h))
      have d65 : Dj F0 F62 := Dj.grow (d6) (d54.symm) sb64
      have d66 : Dj F1 F62 := Dj.grow (d7) (d55.symm) sb64
      have n67 : ∀ a ∈ F62, H0 a = none := fresh_grow n8 (app_fresh nil_fresh (app_fresh nil_fresh (app_fresh n40 (app_fresh nil_fresh nil_fresh)))) sb64
      obtain rfl := Option.some.inj hbe1
      exact ⟨_, F62, c0, r0, r1, r4, (d65), (d66), n67, hle1⟩
    obtain ⟨s2, F5, c0, r0, r1, r4, d6, d7, n8, hle1⟩ := hp
    obtain rfl := Mi.forN_end hle1
    refine c_val (val_var rfl) ?_
    refine w_eqD (τ := (yLsg (yTup (sCons yInt (sCons yInt (sCons (yLst yInt) (sCons yInt (sOne yBool)))))))) (dat_lsg (dat_tup (sat_cons dat_int (sat_cons dat_int (sat_cons (dat_lst dat_int) (sat_cons dat_int (sat_one dat_bool))))))) r4 r1 ?_
    obtain rfl := Option.some.inj hm
    exact hQ _ c0 
abbrev s_l_unmet_hold : Stmt := topS 22
abbrev N_l_unmet_hold : List Str := ["_law_handed", "_law_notes", "_law_places_here", "_law_path", "_law_ship", "_law_due_here", "_law_told"]
theorem sc_l_unmet_hold : FnScope ["_law_handed", "_law_notes", "_law_places_here", "_law_path", "_law_ship", "_law_due_here", "_law_told"] ["_law_handed", "_law_notes", "_law_places_here"] (defScope s_l_unmet_hold) := ⟨rfl, rfl, rfl, by decide +kernel, rfl, by decide +kernel, by decide +kernel⟩
def sp_l_unmet_hold (K : PySem.W.Frag) (C_Report : Addr) : Sp := fun vs H Q _ => ∃ (v0 : V) (F0 : List Addr) (d0 : (List (Int × Int × (List Int) × Int × Bool))) (v1 : V) (F1 : List Addr) (d1 : (List (Int × Int × (List Int) × Int × Bool))) (v2 : V) (F2 : List Addr) (d2 : (List Int)) (r : Bool), vs = [v0, v1, v2] ∧ (yLst (yObj C_Report nm_Report ty_Report)).rep K H F0 v0 d0 ∧ (yLsg (yTup (sCons yInt (sCons yInt (sCons (yLst yInt) (sCons yInt (sOne yBool))))))).rep K H F1 v1 d1 ∧ (yLst yInt).rep K H F2 v2 d2 ∧ Mi.m_l_unmet_hold d0 d1 d2 = some r ∧ ∀ H', Chg ([]) H H' → Q (.bl r) H'
theorem ok_l_unmet_hold (B : Bi mg) (CN : Cs mg) (D : Dfn K mg "_law_unmet_hold" s_l_unmet_hold) {C_Report : Addr} (T_Report : Tx K mg C_Report "Report" nm_Report) (C_unmet : Cal P w K mg "unmet" ["reports", "ship", "driving"] 2 (sp_unmet K C_Report)) (C_l_due : Cal P w K mg "_law_due" ["_law_notes", "_law_ship", "_law_path"] 1 (sp_l_due K)) (C_l_are_numbers : Cal P w K mg "_law_are_numbers" ["_law_told", "_law_due_here"] 2 (sp_l_are_numbers K)) (C_l_stays : Cal P w K mg "_law_stays" ["_law_handed", "_law_notes"] 1 (sp_l_stays K C_Report)) : Cal P w K mg "_law_unmet_hold" ["_law_handed", "_law_notes", "_law_places_here"] 3 (sp_l_unmet_hold K C_Report) := by
  obtain ⟨f, fd, F, g⟩ := D.ex
  refine ⟨f, fd, g, F.kp, bindsF F (fun _ _ _ _ _ _ us hl => match us, hl with | [_, _, _], _ => rfl), fun base => F.ok sc_l_unmet_hold (fun vs H Q E h => ?_) (fun cdv A outer s H0 vs Q E hr h => ?_)⟩
  · obtain ⟨v0, F0, d0, v1, F1, d1, v2, F2, d2, r, rfl, r0, r1, r2, hm, hQ⟩ := h; rfl
  ·
    obtain ⟨v0, F0, d0, v1, F1, d1, v2, F2, d2, r, rfl, r0, r1, r2, hm, hQ⟩ := h
    refine ⟨_, pss_cons (ps_set (i := 3) sc_l_unmet_hold.nd rfl (.inl rfl) (pe_callTy (cl_list (K := K)) (by rfl) B.list (by decide +kernel) (pa_cons (pv 2) pa_nil)))
      (pss_cons (ps_for PassesOwn.never rfl (pi_range1 (by rfl) B.range (pa_cons pe_int pa_nil)) (pg_name (i := 4) sc_l_unmet_hold.nd rfl (.inl rfl)) (pss_cons (ps_set (i := 5) sc_l_unmet_hold.nd rfl (.inl rfl) (pe_cc C_l_due hr (pa_cons (pv 1) (pa_cons (pv 4) (pa_cons (pv 3) pa_nil)))))
      (pss_cons (ps_set (i := 6) sc_l_unmet_hold.nd rfl (.inl rfl) (pe_cc C_unmet hr (pa_cons (pv 0) (pa_cons (pv 4) (pa_cons (pv 2) pa_nil)))))
      (pss_cons (ps_if (pt_not (pt_val (pe_cc C_l_are_numbers hr (pa_cons (pv 6) (pa_cons (pv 5) pa_nil))))) (pss_cons (ps_ret pe_bl) pss_nil) (pss_nil))
      (pss_cons (ps_expr (pe_bm PySem.F.plainAttrs_list PySem.F.slot_list_append PySem.F.type_list_append mt_append (pv 6) (pa_cons pe_int pa_nil)))
      (pss_cons (ps_if (pt_not (pt_val (pe_cc C_l_are_numbers hr (pa_cons (pe_cc C_unmet hr (pa_cons (pe_callTy (cl_tuple (K := K)) (by rfl) B.tuple (by decide +kernel) (pa_cons (pv 0) pa_nil)) (pa_cons (pv 4) (pa_cons (pv 2) pa_nil)))) (pa_cons (pv 5) pa_nil))))) (pss_cons (ps_ret pe_bl) pss_nil) (pss_nil))
      (pss_cons (ps_if (PW.pt (pw_or (pt_not (pt_val (pe_cc C_l_are_numbers hr (pa_cons (pe_cc C_unmet hr (pa_cons (pv 0) (pa_cons (pv 4) (pa_cons (pv 2) pa_nil)))) (pa_cons (pv 5) pa_nil))))) (pw_or1 (pt_cmpR (op_ne_d hr.units) (pv 2) (pv 3) (nomark _))))) (pss_cons (ps_ret pe_bl) pss_nil) (pss_nil))
      (pss_nil))))))))
      (pss_cons (ps_ret (pe_cc C_l_stays hr (pa_cons (pv 0) (pa_cons (pv 1) pa_nil)))) pss_nil)), ?_⟩
    have c0 : Chg ([] : List Addr) H0 H0 := Chg.refl H0
    unfold Mi.m_l_unmet_hold at hm
    refine q_asg ?_
    refine w_cb ?_
    refine w_args (va_cons (val_var rfl) va_nil) ?_
    refine w_listL r2 fun p1 H5 np4 c2 r3 => ?_
    have d6 : Dj F0 [p1] := Ty.nin r0 np4
    have d7 : Dj F1 [p1] := Ty.nin r1 np4
    have d8 : Dj F2 [p1] := Ty.nin r2 np4
    have n9 : ∀ a ∈ [p1], H0 a = none := one_fresh (c0.dom p1 np4)
    have r0 := Ty.ex r0 c2
    have r1 := Ty.ex r1 c2
    have r2 := Ty.ex r2 c2
    have c0 := c0.trans c2.none
    refine g_name (σ' := [some v0, some v1, some v2, some (.ref p1), none, none, none]) rfl ?_
    refine q_for ?_
    refine w_iRng1 ?_
    refine w_args (va_cons val_c va_nil) ?_
    obtain ⟨g10, hg10, hm⟩ := Mi.bnd hm
    obtain ⟨e11, he11, hm⟩ := Mi.bnd hm
    refine l_rng1 hg10 (fun i σ' H' => ∃ (s12 : Unit) (y13 : Option V) (y14 : Option V) (y15 : Option V), σ' = [some v0, some v1, some v2, some (.ref p1), y13, y14, y15] ∧ Chg ([] : List Addr) H0 H' ∧ (yLst (yObj C_Report nm_Report ty_Report)).rep K H' F0 v0 d0 ∧ (yLsg (yTup (sCons yInt (sCons yInt (sCons (yLst yInt) (sCons yInt (sOne yBool))))))).rep K H' F1 v1 d1 ∧ (yLst yInt).rep K H' F2 v2 d2 ∧ (yLst yInt).rep K H' [p1] (.ref p1) d2 ∧ Mi.forR (Mi.m_l_unmet_hold_b1 d0 d1 d2) s12 (List.drop i g10) = some e11) ⟨(), none, none, none, rfl, c0, r0, r1, r2, r3, he11⟩ (fun i18 x17 σ' H' hx16 hp => ?_) (fun σ' H' hp => ?_)
    ·
      obtain ⟨s12, y13, y14, y15, rfl, c0, r0, r1, r2, r3, hle11⟩ := hp
      obtain ⟨o19, hbe11, hore11⟩ := Mi.forR_go hle11 hx16
      unfold Mi.m_l_unmet_hold_b1 at hbe11
      refine g_name (σ' := [some v0, some v1, some v2, some (.ref p1), some (.int x17), y14, y15]) rfl ?_
      refine q_asg ?_
      refine w_call ?_
      refine w_args (va_cons (val_var rfl) (va_cons (val_var rfl) (va_cons (val_var rfl) va_nil))) ?_
      obtain ⟨q20, hq20, hbe11⟩ := Mi.bnd hbe11
      refine ⟨v1, F1, d1, x17, (.ref p1), [p1], d2, q20, rfl, r1, r3, hq20, fun v23 H22 F25 c21 r24 fr26  => ?_⟩
      have d27 : Dj F0 F25 := Ty.fresh r0 fr26
      have d28 : Dj F1 F25 := Ty.fresh r1 fr26
      have d29 : Dj F2 F25 := Ty.fresh r2 fr26
      have d30 : Dj [p1] F25 := Ty.fresh r3 fr26
      have n31 : ∀ a ∈ F25, H0 a = none := fun a h => c0.dom a (fr26 a h)
      have r0 := Ty.ex r0 c21
      have r1 := Ty.ex r1 c21
      have r2 := Ty.ex r2 c21
      have r3 := Ty.ex r3 c21
      have c0 := c0.trans c21.none
      refine g_name (σ' := [some v0, some v1, some v2, some (.ref p1), some (.int x17), some v23, y15]) rfl ?_
      refine q_asg ?_
      refine w_call ?_
      refine w_args (va_cons (val_var rfl) (va_cons (val_var rfl) (va_cons (val_var rfl) va_nil))) ?_
      obtain ⟨q32, hq32, hbe11⟩ := Mi.bnd hbe11
      refine Or.inl ⟨v0, F0, d0, x17, v2, F2, d2, q32, rfl, r0, r2, hq32, fun v35 H34 F37 c33 r36 fr38  => ?_⟩
      have d39 : Dj F0 F37 := Ty.fresh r0 fr38
      have d40 : Dj F1 F37 := Ty.fresh r1 fr38
      have d41 : Dj F2 F37 := Ty.fresh r2 fr38
      have d42 : Dj [p1] F37 := Ty.fresh r3 fr38
      have d43 : Dj F25 F37 := Ty.fresh r24 fr38
      have n44 : ∀ a ∈ F37, H0 a = none := fun a h => c0.dom a (fr38 a h)
      have r0 := Ty.ex r0 c33
      have r1 := Ty.ex r1 c33
      have r2 := Ty.ex r2 c33
      have r3 := Ty.ex r3 c33
      have r24 := Ty.ex r24 c33
      have c0 := c0.trans c33.none
      refine g_name (σ' := [some v0, some v1, some v2, some (.ref p1), some (.int x17), some v23, some v35]) rfl ?_
      refine q_ifS ?_
      refine w_not ?_
      refine w_B ?_
      refine w_call ?_
      refine w_args (va_cons (val_var rfl) (va_cons (val_var rfl) va_nil)) ?_
      obtain ⟨q45, hq45, hbe11⟩ := Mi.bnd hbe11
      refine ⟨v35, F37, q32, v23, F25, q20, q45, rfl, r36, r24, hq45, fun H47 c46  => ?_⟩
      have r0 := Ty.ex r0 c46
      have r1 := Ty.ex r1 c46
      have r2 := Ty.ex r2 c46
      have r3 := Ty.ex r3 c46
      have r24 := Ty.ex r24 c46
      have r36 := Ty.ex r36 c46
      have c0 := c0.trans c46.none
      refine ⟨_, rfl, ?_⟩
      refine c_if (fun hb => ?_) (fun hb => ?_)
      ·
        replace hbe11 := Mi.ifT hb hbe11
        refine q_ret ?_
        refine c_val val_c ?_
        obtain rfl := Option.some.inj hbe11
        obtain rfl := Mi.or_inl hore11
        obtain rfl := Option.some.inj (Mi.orR_inl hm)
        exact hQ _ c0 
      replace hbe11 := Mi.ifF hb hbe11
      refine w_fall ?_
      refine q_drop (w_bm (c_val (val_var rfl) ⟨tyv_lst r36, ?_⟩))
      refine w_args (va_cons val_c va_nil) ?_
      obtain ⟨x48, hx48, hbe11⟩ := Mi.bnd hbe11
      refine m_app r36 yInt_i hx48 fun H50 c49 r36 => ?_
      have r0 := Ty.chg r0 c49 d39
      have r1 := Ty.chg r1 c49 d40
      have r2 := Ty.chg r2 c49 d41
      have r3 := Ty.chg r3 c49 d42
      have r24 := Ty.chg r24 c49 d43
      have c0 := c0.join c49 (fun a h => .inr (n44 a h))
      refine q_ifS ?_
      refine w_not ?_
      refine w_B ?_
      refine w_call ?_
      refine w_cons ?_
      refine w_call ?_
      refine w_cons ?_
      refine w_cb ?_
      refine w_args (va_cons (val_var rfl) va_nil) ?_
      refine w_tupleL r0 fun v51 H52 c53 r54 => ?_
      have r0 := Ty.ex r0 c53
      have r1 := Ty.ex r1 c53
      have r2 := Ty.ex r2 c53
      have r3 := Ty.ex r3 c53
      have r24 := Ty.ex r24 c53
      have r36 := Ty.ex r36 c53
      have c0 := c0.trans c53.none
      refine w_cons ?_
      refine c_val (val_var rfl) ?_
      refine w_cons ?_
      refine c_val (val_var rfl) ?_
      refine w_nil ?_
      obtain ⟨q55, hq55, hbe11⟩ := Mi.bnd hbe11
      refine Or.inr (⟨v51, d0, x17, v2, F2, d2, q55, rfl, r54, r2, hq55, fun v58 H57 F60 c56 r59 fr61  => ?_⟩)
      have d62 : Dj F0 F60 := Ty.fresh r0 fr61
      have d63 : Dj F1 F60 := Ty.fresh r1 fr61
      have d64 : Dj F2 F60 := Ty.fresh r2 fr61
      have d65 : Dj [p1] F60 := Ty.fresh r3 fr61
      have d66 : Dj F25 F60 := Ty.fresh r24 fr61
      have d67 : Dj F37 F60 := Ty.fresh r36 fr61
      have n68 : ∀ a ∈ F60, H0 a = none := fun a h => c0.dom a (fr61 a h)
      have r0 := Ty.ex r0 c56
      have r1 := Ty.ex r1 c56
      have r2 := Ty.ex r2 c56
      have r3 := Ty.ex r3 c56
      have r24 := Ty.ex r24 c56
      have r36 := Ty.ex r36 c56
      have c0 := c0.trans c56.none
      refine w_cons ?_
      refine c_val (val_var rfl) ?_
      refine w_nil ?_
      obtain ⟨q69, hq69, hbe11⟩ := Mi.bnd hbe11
      refine ⟨v58, F60, q55, v23, F25, q20, q69, rfl, r59, r24, hq69, fun H71 c70  => ?_⟩
      have r0 := Ty.ex r0 c70
      have r1 := Ty.ex r1 c70
      have r2 := Ty.ex r2 c70
      have r3 := Ty.ex r3 c70
      have r24 := Ty.ex r24 c70
      have r36 := Ty.ex r36 c70
      have c0 := c0.trans c70.none
      refine ⟨_, rfl, ?_⟩
      refine c_if (fun hb => ?_) (fun hb => ?_)
      ·
        replace hbe11 := Mi.ifT hb hbe11
        refine q_ret ?_
        refine c_val val_c ?_
        obtain rfl := Option.some.inj hbe11
        obtain rfl := Mi.or_inl hore11
        obtain rfl := Option.some.inj (Mi.orR_inl hm)
        exact hQ _ c0 
      replace hbe11 := Mi.ifF hb hbe11
      refine w_fall ?_
      refine q_ifS ?_
      obtain ⟨b72, hb72, hbe11⟩ := Mi.bnd hbe11
      refine j_tt b72 (R := fun H' => Chg ([] : List Addr) H0 H' ∧ (yLst (yObj C_Report nm_Report ty_Report)).rep K H' F0 v0 d0 ∧ (yLsg (yTup (sCons yInt (sCons yInt (sCons (yLst yInt) (sCons yInt (sOne yBool))))))).rep K H' F1 v1 d1 ∧ (yLst yInt).rep K H' F2 v2 d2 ∧ (yLst yInt).rep K H' [p1] (.ref p1) d2 ∧ (yLst yInt).rep K H' F25 v23 q20 ∧ (yLst yInt).rep K H' F37 v35 x48) (fun Q' kq => ?_) (fun H' hj => ?_)
      ·
        refine w_or ?_
        refine w_not ?_
        refine w_B ?_
        refine w_call ?_
        refine w_cons ?_
        refine w_call ?_
        refine w_args (va_cons (val_var rfl) (va_cons (val_var rfl) (va_cons (val_var rfl) va_nil))) ?_
        obtain ⟨q73, hq73, hb72⟩ := Mi.bnd hb72
        refine Or.inl ⟨v0, F0, d0, x17, v2, F2, d2, q73, rfl, r0, r2, hq73, fun v76 H75 F78 c74 r77 fr79  => ?_⟩
        have d80 : Dj F0 F78 := Ty.fresh r0 fr79
        have d81 : Dj F1 F78 := Ty.fresh r1 fr79
        have d82 : Dj F2 F78 := Ty.fresh r2 fr79
        have d83 : Dj [p1] F78 := Ty.fresh r3 fr79
        have d84 : Dj F25 F78 := Ty.fresh r24 fr79
        have d85 : Dj F37 F78 := Ty.fresh r36 fr79
        have n86 : ∀ a ∈ F78, H0 a = none := fun a h => c0.dom a (fr79 a h)
        have r0 := Ty.ex r0 c74
        have r1 := Ty.ex r1 c74
        have r2 := Ty.ex r2 c74
        have r3 := Ty.ex r3 c74
        have r24 := Ty.ex r24 c74
        have r36 := Ty.ex r36 c74
        have c0 := c0.trans c74.none
        refine w_cons ?_
        refine c_val (val_var rfl) ?_
        refine w_nil ?_
        obtain ⟨q87, hq87, hb72⟩ := Mi.bnd hb72
        refine ⟨v76, F78, q73, v23, F25, q20, q87, rfl, r77, r24, hq87, fun H89 c88  => ?_⟩
        have r0 := Ty.ex r0 c88
        have r1 := Ty.ex r1 c88
        have r2 := Ty.ex r2 c88
        have r3 := Ty.ex r3 c88
        have r24 := Ty.ex r24 c88
        have r36 := Ty.ex r36 c88
        have c0 := c0.trans c88.none
        refine ⟨_, rfl, ?_⟩
        refine c_if (fun hb => ?_) (fun hb => ?_)
        ·
          replace hb72 := Mi.ifT hb hb72
          obtain rfl := Option.some.inj hb72
          exact kq _ ⟨c0, r0, r1, r2, r3, r24, r36⟩
        replace hb72 := Mi.ifF hb hb72
        refine w_test ?_
        refine w_op ?_
        refine c_val (val_var rfl) ?_
        refine c_val (val_var rfl) ?_
        refine w_neD (τ := (yLst yInt)) (dat_lst dat_int) r2 r3 ?_
        refine ⟨_, rfl, ?_⟩
        obtain rfl := Option.some.inj hb72
        exact kq _ ⟨c0, r0, r1, r2, r3, r24, r36⟩
      obtain ⟨c0, r0, r1, r2, r3, r24, r36⟩ := hj
      refine c_if (fun hb => ?_) (fun hb => ?_)
      ·
        replace hbe11 := Mi.ifT hb hbe11
        refine q_ret ?_
        refine c_val val_c ?_
        obtain rfl := Option.some.inj hbe11
        obtain rfl := Mi.or_inl hore11
        obtain rfl := Option.some.inj (Mi.orR_inl hm)
        exact hQ _ c0 
      replace hbe11 := Mi.ifF hb hbe11
      refine w_fall ?_
      refine w_nextJ ?_
      obtain rfl := Option.some.inj hbe11
      replace hore11 := Mi.or_inr hore11
      exact ⟨_, (some (.int x17)), (some v23), (some v35), rfl, c0, r0, r1, r2, r3, hore11⟩
    obtain ⟨s12, y13, y14, y15, rfl, c0, r0, r1, r2, r3, hle11⟩ := hp
    obtain rfl := Mi.forR_end hle11
    replace hm := Mi.orR_inr hm
    refine q_ret ?_
    refine w_call ?_
    refine w_args (va_cons (val_var rfl) (va_cons (val_var rfl) va_nil)) ?_
    obtain ⟨q90, hq90, hm⟩ := Mi.bnd hm
    refine ⟨v0, F0, d0, v1, F1, d1, q90, rfl, r0, r1, hq90, fun H92 c91  => ?_⟩
    have r0 := Ty.ex r0 c91
    have r1 := Ty.ex r1 c91
    have r2 := Ty.ex r2 c91
    have r3 := Ty.ex r3 c91
    have c0 := c0.trans c91.none
    obtain rfl := Option.some.inj hm
    exact hQ _ c0 
abbrev s_law : Stmt := topS 23
abbrev N_law : List Str := ["_law_script", "_law_hand_here", "_law_last", "_law_size", "_law_places_here", "_law_count", "_law_notes", "_law_handed", "_law_turn", "_law_spot", "_law_k", "_law_note"]
theorem sc_law : FnScope ["_law_script", "_law_hand_here", "_law_last", "_law_size", "_law_places_here", "_law_count", "_law_notes", "_law_handed", "_law_turn", "_law_spot", "_law_k", "_law_note"] ["_law_script"] (defScope s_law) := ⟨rfl, rfl, rfl, by decide +kernel, rfl, by decide +kernel, by decide +kernel⟩
def sp_law (K : PySem.W.Frag) : Sp := fun vs H Q _ => ∃ (v0 : V) (d0 : (List Int)) (r : Bool), vs = [v0] ∧ yScr.rep K H [] v0 d0 ∧ Mi.m_law d0 = some r ∧ ∀ H', Chg ([]) H H' → Q (.bl r) H'
theorem ok_law (B : Bi mg) (CN : Cs mg) (D : Dfn K mg "law" s_law) {C_Report : Addr} (T_Report : Tx K mg C_Report "Report" nm_Report) (I_Report : CalI P w K mg C_Report "Report.__init__" s_Report_init kw_Report ["self", "ship", "hour", "zone", "weight", "inside"] 2 (sp_Report_init K C_Report)) (C_l_hand : Cal P w K mg "_law_hand" ["_law_script", "_law_k"] 1 (sp_l_hand K)) (C_l_pick : Cal P w K mg "_law_pick" ["_law_hand_here", "_law_size"] 1 (sp_l_pick K)) (C_l_wild : Cal P w K mg "_law_wild" ["_law_hand_here", "_law_count", "_law_last", "_law_number"] 2 (sp_l_wild K)) (C_l_unmet_hold : Cal P w K mg "_law_unmet_hold" ["_law_handed", "_law_notes", "_law_places_here"] 3 (sp_l_unmet_hold K C_Report)) : Cal P w K mg "law" ["_law_script"] 4 (sp_law K) := by
  obtain ⟨f, fd, F, g⟩ := D.ex
  refine ⟨f, fd, g, F.kp, bindsF F (fun _ _ _ _ _ _ us hl => match us, hl with | [_], _ => rfl), fun base => F.ok sc_law (fun vs H Q E h => ?_) (fun cdv A outer s H0 vs Q E hr h => ?_)⟩
  · obtain ⟨v0, d0, r, rfl, r0, hm, hQ⟩ := h; rfl
  ·
    obtain ⟨v0, d0, r, rfl, r0, hm, hQ⟩ := h
    obtain ⟨fI_Report, fdI_Report, MI_Report, FI_Report, OI_Report⟩ := I_Report.ex
    obtain ⟨mv_kb_Report_3_weight_inside, kb_Report_3_weight_inside⟩ := FunD.kbinds0 (ps := ["self", "ship", "hour", "zone", "weight", "inside"]) FI_Report 4 ["weight", "inside"] [] (fun us _ ws => us ++ ws) (by intro z; cases z) (fun q hq => nomatch hq) (fun r1 _ r3 => Vals.append r1 r3) (fun _ _ _ _ _ _ us mv ws h1 h2 h3 => match us, mv, ws, h1, h2, h3 with | [_, _, _, _], [], [_, _], _, _, _ => rfl)
    refine ⟨_, pss_cons (ps_set (i := 1) sc_law.nd rfl (.inr rfl) (pe_cc C_l_hand hr (pa_cons (pv 0) (pa_cons pe_int pa_nil))))
      (pss_cons (ps_set (i := 2) sc_law.nd rfl (.inl rfl) (pe_cc C_l_pick hr (pa_cons (pv 1) (pa_cons (pe_ix (ix_l (K := K)) (pe_lst (pa_cons pe_int (pa_cons pe_int pa_nil))) (pe_cc C_l_pick hr (pa_cons (pv 1) (pa_cons pe_int pa_nil))) (fun _ _ => rfl)) pa_nil))))
      (pss_cons (ps_set (i := 3) sc_law.nd rfl (.inl rfl) (pe_op op_add pe_int (pe_ix (ix_l (K := K)) (pe_lst (pa_cons (pv 2) (pa_cons (pe_cc C_l_pick hr (pa_cons (pv 1) (pa_cons pe_int pa_nil))) pa_nil))) (pe_cc C_l_pick hr (pa_cons (pv 1) (pa_cons pe_int pa_nil))) (fun _ _ => rfl))))
      (pss_cons (ps_set (i := 1) sc_law.nd rfl (.inr rfl) (pe_cc C_l_hand hr (pa_cons (pv 0) (pa_cons pe_int pa_nil))))
      (pss_cons (ps_setLc (i := 4) (own := [("_law_k", 10)]) rfl sc_law.nd rfl rfl (sw_true rfl rfl rfl (by decide +kernel)) (pi_range1 (by rfl) B.range (pa_cons (pv 3) pa_nil)) (blkOk_by (own := [("_law_k", 10)]) (N := N_law) (sc := defScope s_law) (by decide +kernel)) (fun _ _ _ _ _ => (pg_name (i := 10) sc_law.nd rfl (.inl rfl))) (fun _ _ _ _ _ => pts_nil) (fun _ _ _ _ _ => (pe_cc C_l_pick hr (pa_cons (pv 1) (pa_cons pe_int pa_nil)))))
      (pss_cons (ps_set (i := 1) sc_law.nd rfl (.inr rfl) (pe_cc C_l_hand hr (pa_cons (pv 0) (pa_cons pe_int pa_nil))))
      (pss_cons (ps_set (i := 5) sc_law.nd rfl (.inl rfl) (pe_cc C_l_pick hr (pa_cons (pv 1) (pa_cons (pe_ix (ix_l (K := K)) (pe_lst (pa_cons pe_int (pa_cons pe_int (pa_cons pe_int (pa_cons pe_int (pa_cons pe_int (pa_cons pe_int (pa_cons pe_int (pa_cons pe_int pa_nil))))))))) (pe_cc C_l_pick hr (pa_cons (pv 1) (pa_cons pe_int pa_nil))) (fun _ _ => rfl)) pa_nil))))
      (pss_cons (ps_set (i := 6) sc_law.nd rfl (.inl rfl) (pe_cc C_l_wild hr (pa_cons (pv 1) (pa_cons (pv 5) (pa_cons (pv 2) (pa_cons (pe_cc C_l_pick hr (pa_cons (pv 1) (pa_cons pe_int pa_nil))) pa_nil))))))
      (pss_cons (ps_setLc (i := 7) (own := [("_law_note", 11)]) rfl sc_law.nd rfl rfl (sw_true rfl rfl rfl (by decide +kernel)) (pi_list (pv 6)) (blkOk_by (own := [("_law_note", 11)]) (N := N_law) (sc := defScope s_law) (by decide +kernel)) (fun _ _ _ _ _ => (pg_name (i := 11) sc_law.nd rfl (.inl rfl))) (fun _ _ _ _ _ => pts_nil) (fun _ _ _ _ _ => (pe_makeK MI_Report (OI_Report base) (hr.mono (by decide)) (by rfl) T_Report.mgC kb_Report_3_weight_inside pass0 (pa_cons (pe_ix (ix_t (K := K)) (pv 11) pe_int (fun _ _ => rfl)) (pa_cons (pe_ix (ix_t (K := K)) (pv 11) pe_int (fun _ _ => rfl)) (pa_cons (pe_callTy (cl_list (K := K)) (by rfl) B.list (by decide +kernel) (pa_cons (pe_ix (ix_t (K := K)) (pv 11) pe_int (fun _ _ => rfl)) pa_nil)) pa_nil))) (pk_cons (pe_ix (ix_t (K := K)) (pv 11) pe_int (fun _ _ => rfl)) (pk_cons (pe_ix (ix_t (K := K)) (pv 11) pe_int (fun _ _ => rfl)) pk_nil)))))
      (pss_cons (ps_if (pt_not (pt_val (pe_cc C_l_unmet_hold hr (pa_cons (pv 7) (pa_cons (pv 6) (pa_cons (pv 4) pa_nil)))))) (pss_cons (ps_ret pe_bl) pss_nil) (pss_nil))
      (pss_cons (ps_set (i := 1) sc_law.nd rfl (.inr rfl) (pe_cc C_l_hand hr (pa_cons (pv 0) (pa_cons pe_int pa_nil))))
      (pss_cons (ps_for PassesOwn.never rfl (pi_range1 (by rfl) B.range (pa_cons (pe_cc C_l_pick hr (pa_cons (pv 1) (pa_cons (pe_callB (cl_len (K := K)) (by rfl) B.len PySem.boot_len (pa_cons (pv 4) pa_nil)) pa_nil))) pa_nil)) (pg_name (i := 8) sc_law.nd rfl (.inl rfl)) (pss_cons (ps_expr (pe_bm0 PySem.F.plainAttrs_list PySem.F.slot_list_pop PySem.F.type_list_pop mt_pop (pv 4)))
      (pss_nil)))
      (pss_cons (ps_if (pt_not (pt_val (pe_cc C_l_unmet_hold hr (pa_cons (pv 7) (pa_cons (pv 6) (pa_cons (pv 4) pa_nil)))))) (pss_cons (ps_ret pe_bl) pss_nil) (pss_nil))
      (pss_cons (ps_if (pt_cmpR op_gt (pe_callB (cl_len (K := K)) (by rfl) B.len PySem.boot_len (pa_cons (pv 6) pa_nil)) pe_int (nomark _)) (pss_cons (ps_set (i := 9) sc_law.nd rfl (.inl rfl) (pe_cc C_l_pick hr (pa_cons (pv 1) (pa_cons (pe_callB (cl_len (K := K)) (by rfl) B.len PySem.boot_len (pa_cons (pv 6) pa_nil)) pa_nil))))
      (pss_cons (ps_expr (pe_bm PySem.F.plainAttrs_list PySem.F.slot_list_pop PySem.F.type_list_pop mt_popAt (pv 6) (pa_cons (pv 9) pa_nil)))
      (pss_cons (ps_expr (pe_bm PySem.F.plainAttrs_list PySem.F.slot_list_pop PySem.F.type_list_pop mt_popAt (pv 7) (pa_cons (pv 9) pa_nil)))
      (pss_nil)))) (pss_nil))
      (pss_cons (ps_if (pt_cmpR op_gt (pe_callB (cl_len (K := K)) (by rfl) B.len PySem.boot_len (pa_cons (pv 6) pa_nil)) pe_int (nomark _)) (pss_cons (ps_set (i := 9) sc_law.nd rfl (.inl rfl) (pe_cc C_l_pick hr (pa_cons (pv 1) (pa_cons (pe_callB (cl_len (K := K)) (by rfl) B.len PySem.boot_len (pa_cons (pv 6) pa_nil)) pa_nil))))
      (pss_cons (ps_expr (pe_bm PySem.F.plainAttrs_list PySem.F.slot_list_append PySem.F.type_list_append mt_append (pv 6) (pa_cons (pe_ix (ix_l (K := K)) (pv 6) (pv 9) (fun _ _ => rfl)) pa_nil)))
      (pss_cons (ps_expr (pe_bm PySem.F.plainAttrs_list PySem.F.slot_list_append PySem.F.type_list_append mt_append (pv 7) (pa_cons (pe_ix (ix_l (K := K)) (pv 7) (pv 9) (fun _ _ => rfl)) pa_nil)))
      (pss_nil)))) (pss_nil))
      (pss_cons (ps_ret (pe_cc C_l_unmet_hold hr (pa_cons (pv 7) (pa_cons (pv 6) (pa_cons (pv 4) pa_nil))))) pss_nil))))))))))))))), ?_⟩
    have c0 : Chg ([] : List Addr) H0 H0 := Chg.refl H0
    unfold Mi.m_law at hm
    refine q_asg ?_
    refine w_call ?_
    refine w_args (va_cons (val_var rfl) (va_cons val_c va_nil)) ?_
    obtain ⟨q1, hq1, hm⟩ := Mi.bnd hm
    refine ⟨v0, d0, (0 : Int), q1, rfl, r0, hq1, fun v4 H3 F6 c2 r5 fr7  => ?_⟩
    have n8 : ∀ a ∈ F6, H0 a = none := fun a h => c0.dom a (fr7 a h)
    have r0 := Ty.fz r0 c2
    have c0 := c0.trans c2.none
    refine g_name (σ' := [some v0, some v4, none, none, none, none, none, none, none, none, none, none]) rfl ?_
    refine q_asg ?_
    refine w_call ?_
    refine w_cons ?_
    refine c_val (val_var rfl) ?_
    refine w_cons ?_
    refine w_op ?_
    refine w_lst ?_
    refine w_args (va_cons val_c (va_cons val_c va_nil)) ?_
    refine e_lst (K := K) (τ := yInt) (by exact Nat.le_of_ble_eq_true rfl) (.cons yInt_i (.cons yInt_i .nil)) fun p9 H13 np12 c10 r11 => ?_
    have d14 : Dj F6 [p9] := Ty.nin r5 np12
    have n15 : ∀ a ∈ [p9], H0 a = none := one_fresh (c0.dom p9 np12)
    have r0 := Ty.fz r0 c10
    have r5 := Ty.ex r5 c10
    have c0 := c0.trans c10.none
    refine w_call ?_
    refine w_args (va_cons (val_var rfl) (va_cons val_c va_nil)) ?_
    obtain ⟨q16, hq16, hm⟩ := Mi.bnd hm
    refine ⟨v4, F6, q1, (2 : Int), q16, rfl, r5, hq16, fun H18 c17 r5 => ?_⟩
    have r0 := Ty.fz r0 c17
    have r11 := Ty.chg r11 c17 d14.symm
    have c0 := c0.join c17 (fun a h => .inr (n8 a h))
    obtain ⟨x19, hx19, hm⟩ := Mi.bnd hm
    refine w_ixL r11 hx19 fun u20 r21 => ?_
    obtain ⟨_, rfl⟩ := r21
    refine w_nil ?_
    obtain ⟨q22, hq22, hm⟩ := Mi.bnd hm
    refine ⟨v4, F6, q16.2, x19, q22, rfl, r5, hq22, fun H24 c23 r5 => ?_⟩
    have r0 := Ty.fz r0 c23
    have c0 := c0.join c23 (fun a h => .inr (n8 a h))
    refine g_name (σ' := [some v0, some v4, some (.int q22.1), none, none, none, none, none, none, none, none, none]) rfl ?_
    refine q_asg ?_
    refine w_op ?_
    refine c_val val_c ?_
    refine w_op ?_
    refine w_lst ?_
    refine w_cons ?_
    refine c_val (val_var rfl) ?_
    refine w_cons ?_
    refine w_call ?_
    refine w_args (va_cons (val_var rfl) (va_cons val_c va_nil)) ?_
    obtain ⟨q25, hq25, hm⟩ := Mi.bnd hm
    refine ⟨v4, F6, q22.2, (25 : Int), q25, rfl, r5, hq25, fun H27 c26 r5 => ?_⟩
    have r0 := Ty.fz r0 c26
    have c0 := c0.join c26 (fun a h => .inr (n8 a h))
    refine w_nil ?_
    refine e_lst (K := K) (τ := yInt) (by exact Nat.le_of_ble_eq_true rfl) (.cons yInt_i (.cons yInt_i .nil)) fun p28 H32 np31 c29 r30 => ?_
    have d33 : Dj F6 [p28] := Ty.nin r5 np31
    have n34 : ∀ a ∈ [p28], H0 a = none := one_fresh (c0.dom p28 np31)
    have r0 := Ty.fz r0 c29
    have r5 := Ty.ex r5 c29
    have c0 := c0.trans c29.none
    refine w_call ?_
    refine w_args (va_cons (val_var rfl) (va_cons val_c va_nil)) ?_
    obtain ⟨q35, hq35, hm⟩ := Mi.bnd hm
    refine ⟨v4, F6, q25.2, (2 : Int), q35, rfl, r5, hq35, fun H37 c36 r5 => ?_⟩
    have r0 := Ty.fz r0 c36
    have r30 := Ty.chg r30 c36 d33.symm
    have c0 := c0.join c36 (fun a h => .inr (n8 a h))
    obtain ⟨x38, hx38, hm⟩ := Mi.bnd hm
    refine w_ixL r30 hx38 fun u39 r40 => ?_
    obtain ⟨_, rfl⟩ := r40
    refine w_I0 ?_
    obtain ⟨size41, hsize41, hm⟩ := Mi.letE hm
    refine g_nameE (congrArg V.int hsize41) (σ' := [some v0, some v4, some (.int q22.1), some (.int size41), none, none, none, none, none, none, none, none]) rfl ?_
    refine q_asg ?_
    refine w_call ?_
    refine w_args (va_cons (val_var rfl) (va_cons val_c va_nil)) ?_
    obtain ⟨q42, hq42, hm⟩ := Mi.bnd hm
    refine ⟨v0, d0, (1 : Int), q42, rfl, r0, hq42, fun v45 H44 F47 c43 r46 fr48  => ?_⟩
    have d49 : Dj F6 F47 := Ty.fresh r5 fr48
    have n50 : ∀ a ∈ F47, H0 a = none := fun a h => c0.dom a (fr48 a h)
    have r0 := Ty.fz r0 c43
    have r5 := Ty.ex r5 c43
    have c0 := c0.trans c43.none
    refine g_name (σ' := [some v0, some v45, some (.int q22.1), some (.int size41), none, none, none, none, none, none, none, none]) rfl ?_
    refine q_asg ?_
    refine w_lc ?_
    refine w_iRng1 ?_
    refine w_args (va_cons (val_var rfl) va_nil) ?_
    obtain ⟨g51, hg51, hm⟩ := Mi.bnd hm
    obtain ⟨e52, he52, hm⟩ := Mi.bnd hm
    refine kc_rng1 (K := K) (τ := yInt) hg51 (fun D54 i H' => ∃ (s53 : ((List Int) × (List Int))), Chg ([] : List Addr) H0 H' ∧ yScr.rep K H' [] v0 d0 ∧ (yLst yInt).rep K H' F47 v45 s53.2 ∧ (yLst yInt).rep K H' [D54] (.ref D54) s53.1 ∧ Dj F47 [D54] ∧ (∀ a ∈ [D54], H0 a = none) ∧ Mi.forN (Mi.m_law_b1) s53 (List.drop i g51) = some e52) (fun D54 H60 np59 c58 r55 => ⟨(([] : (List Int)), q42), c0.trans c58.none, (Ty.fz r0 c58), (Ty.ex r46 c58), r55, Ty.nin r46 np59, one_fresh (c0.dom D54 np59), he52⟩) (fun D54 i63 x62 H64 hx61 hp => ?_) (fun D54 H' np59 hp => ?_)
    ·
      obtain ⟨s53, c0, r0, r46, r55, d56, n57, hle52⟩ := hp
      obtain ⟨_, hbe52, hle52⟩ := Mi.forN_go hle52 hx61
      unfold Mi.m_law_b1 at hbe52
      refine g_name (σ' := [some v0, some v45, some (.int q22.1), some (.int size41), none, none, none, none, none, none, some (.int x62), none]) rfl ?_
      refine ⟨rfl, ?_⟩
      refine w_yes ?_
      refine iteT ?_
      refine w_call ?_
      refine w_args (va_cons (val_var rfl) (va_cons val_c va_nil)) ?_
      obtain ⟨q69, hq69, hbe52⟩ := Mi.bnd hbe52
      refine ⟨v45, F47, s53.2, (12 : Int), q69, rfl, r46, hq69, fun H71 c70 r46 => ?_⟩
      have r0 := Ty.fz r0 c70
      have r55 := Ty.chg r55 c70 d56.symm
      have c0 := c0.join c70 (fun a h => .inr (n50 a h))
      obtain ⟨x72, hx72, hbe52⟩ := Mi.bnd hbe52
      refine e_app r55 yInt_i hx72 fun H74 c73 r55 => ?_
      have r0 := Ty.fz r0 c73
      have r46 := Ty.chg r46 c73 d56
      have c0 := c0.join c73 (fun a h => .inr (n57 a h))
      obtain rfl := Option.some.inj hbe52
      exact ⟨_, c0, r0, r46, r55, d56, n57, hle52⟩
    obtain ⟨s53, c0, r0, r46, r55, d56, n57, hle52⟩ := hp
    obtain rfl := Mi.forN_end hle52
    refine g_name (σ' := [some v0, some v45, some (.int q22.1), some (.int size41), some (.ref D54), none, none, none, none, none, none, none]) rfl ?_
    refine q_asg ?_
    refine w_call ?_
    refine w_args (va_cons (val_var rfl) (va_cons val_c va_nil)) ?_
    obtain ⟨q75, hq75, hm⟩ := Mi.bnd hm
    refine ⟨v0, d0, (2 : Int), q75, rfl, r0, hq75, fun v78 H77 F80 c76 r79 fr81  => ?_⟩
    have d82 : Dj F47 F80 := Ty.fresh r46 fr81
    have d83 : Dj [D54] F80 := Ty.fresh r55 fr81
    have n84 : ∀ a ∈ F80, H0 a = none := fun a h => c0.dom a (fr81 a h)
    have r0 := Ty.fz r0 c76
    have r46 := Ty.ex r46 c76
    have r55 := Ty.ex r55 c76
    have c0 := c0.trans c76.none
    refine g_name (σ' := [some v0, some v78, some (.int q22.1), some (.int size41), some (.ref D54), none, none, none, none, none, none, none]) rfl ?_
    refine q_asg ?_
    refine w_call ?_
    refine w_cons ?_
    refine c_val (val_var rfl) ?_
    refine w_cons ?_
    refine w_op ?_
    refine w_lst ?_
    refine w_args (va_cons val_c (va_cons val_c (va_cons val_c (va_cons val_c (va_cons val_c (va_cons val_c (va_cons val_c (va_cons val_c va_nil)))))))) ?_
    refine e_lst (K := K) (τ := yInt) (by exact Nat.le_of_ble_eq_true rfl) (.cons yInt_i (.cons yInt_i (.cons yInt_i (.cons yInt_i (.cons yInt_i (.cons yInt_i (.cons yInt_i (.cons yInt_i .nil)))))))) fun p85 H89 np88 c86 r87 => ?_
    have d90 : Dj F80 [p85] := Ty.nin r79 np88
    have d91 : Dj [D54] [p85] := Ty.nin r55 np88
    have n92 : ∀ a ∈ [p85], H0 a = none := one_fresh (c0.dom p85 np88)
    have r0 := Ty.fz r0 c86
    have r79 := Ty.ex r79 c86
    have r55 := Ty.ex r55 c86
    have c0 := c0.trans c86.none
    refine w_call ?_
    refine w_args (va_cons (val_var rfl) (va_cons val_c va_nil)) ?_
    obtain ⟨q93, hq93, hm⟩ := Mi.bnd hm
    refine ⟨v78, F80, q75, (8 : Int), q93, rfl, r79, hq93, fun H95 c94 r79 => ?_⟩
    have r0 := Ty.fz r0 c94
    have r55 := Ty.chg r55 c94 d83
    have r87 := Ty.chg r87 c94 d90.symm
    have c0 := c0.join c94 (fun a h => .inr (n84 a h))
    obtain ⟨x96, hx96, hm⟩ := Mi.bnd hm
    refine w_ixL r87 hx96 fun u97 r98 => ?_
    obtain ⟨_, rfl⟩ := r98
    refine w_nil ?_
    obtain ⟨q99, hq99, hm⟩ := Mi.bnd hm
    refine ⟨v78, F80, q93.2, x96, q99, rfl, r79, hq99, fun H101 c100 r79 => ?_⟩
    have r0 := Ty.fz r0 c100
    have r55 := Ty.chg r55 c100 d83
    have c0 := c0.join c100 (fun a h => .inr (n84 a h))
    refine g_name (σ' := [some v0, some v78, some (.int q22.1), some (.int size41), some (.ref D54), some (.int q99.1), none, none, none, none, none, none]) rfl ?_
    refine q_asg ?_
    refine w_call ?_
    refine w_cons ?_
    refine c_val (val_var rfl) ?_
    refine w_cons ?_
    refine c_val (val_var rfl) ?_
    refine w_cons ?_
    refine c_val (val_var rfl) ?_
    refine w_cons ?_
    refine w_call ?_
    refine w_args (va_cons (val_var rfl) (va_cons val_c va_nil)) ?_
    obtain ⟨q102, hq102, hm⟩ := Mi.bnd hm
    refine ⟨v78, F80, q99.2, (4 : Int), q102, rfl, r79, hq102, fun H104 c103 r79 => ?_⟩
    have r0 := Ty.fz r0 c103
    have r55 := Ty.chg r55 c103 d83
    have c0 := c0.join c103 (fun a h => .inr (n84 a h))
    refine w_nil ?_
    obtain ⟨q105, hq105, hm⟩ := Mi.bnd hm
    have r79_old := r79
    refine ⟨v78, F80, q102.2, q99.1, q22.1, q102.1, q105, rfl, r79, hq105, fun v108 H107 F110 c106 r109 fr111 r79 => ?_⟩
    have d112 : Dj F80 F110 := Ty.fresh r79_old fr111
    have d113 : Dj [D54] F110 := Ty.fresh r55 fr111
    have n114 : ∀ a ∈ F110, H0 a = none := fun a h => c0.dom a (fr111 a h)
    have r0 := Ty.fz r0 c106
    have r55 := Ty.chg r55 c106 d83
    have c0 := c0.join c106 (fun a h => .inr (n84 a h))
    refine g_name (σ' := [some v0, some v78, some (.int q22.1), some (.int size41), some (.ref D54), some (.int q99.1), some v108, none, none, none, none, none]) rfl ?_
    refine q_asg ?_
    refine w_lc ?_
    refine w_iList ?_
    refine c_val (val_var rfl) ?_
    obtain ⟨e115, he115, hm⟩ := Mi.bnd hm
    refine kc_lsg (K := K) (τ := (yObj C_Report nm_Report ty_Report)) r109 (fun D117 i H' => ∃ (s116 : (List (Int × Int × (List Int) × Int × Bool))), Chg ([] : List Addr) H0 H' ∧ yScr.rep K H' [] v0 d0 ∧ (yLst yInt).rep K H' F80 v78 q105.2 ∧ (yLst yInt).rep K H' [D54] (.ref D54) s53.1 ∧ (yLsg (yTup (sCons yInt (sCons yInt (sCons (yLst yInt) (sCons yInt (sOne yBool))))))).rep K H' F110 v108 q105.1 ∧ (yLst (yObj C_Report nm_Report ty_Report)).rep K H' [D117] (.ref D117) s116 ∧ Dj F80 [D117] ∧ Dj [D54] [D117] ∧ Dj F110 [D117] ∧ (∀ a ∈ [D117], H0 a = none) ∧ Mi.forN (Mi.m_law_b2) s116 (List.drop i q105.1) = some e115) (fun D117 H125 np124 c123 r118 => ⟨([] : (List (Int × Int × (List Int) × Int × Bool))), c0.trans c123.none, (Ty.fz r0 c123), (Ty.ex r79 c123), (Ty.ex r55 c123), (Ty.ex r109 c123), r118, Ty.nin r79 np124, Ty.nin r55 np124, Ty.nin r109 np124, one_fresh (c0.dom D117 np124), he115⟩) (fun D117 i H' hp => by obtain ⟨s116, c0, r0, r79, r55, r109, r118, d119, d120, d121, n122, _⟩ := hp; exact r109) (fun D117 i128 x127 u130 F132 H129 hx126 r131 su133 hp => ?_) (fun D117 H' np124 hp => ?_)
    ·
      obtain ⟨s116, c0, r0, r79, r55, r109, r118, d119, d120, d121, n122, hle115⟩ := hp
      obtain ⟨_, hbe115, hle115⟩ := Mi.forN_go hle115 hx126
      unfold Mi.m_law_b2 at hbe115
      have d134 : Dj F132 F80 := Dj.sub (d112.symm) su133
      have d135 : Dj F132 [D54] := Dj.sub (d113.symm) su133
      have d136 : Dj F132 [D117] := Dj.sub (d121) su133
      have n137 : ∀ a ∈ F132, H0 a = none := fun a h => n114 a (su133 a h)
      refine g_name (σ' := [some v0, some v78, some (.int q22.1), some (.int size41), some (.ref D54), some (.int q99.1), some v108, none, none, none, none, some u130]) rfl ?_
      refine ⟨rfl, ?_⟩
      refine w_yes ?_
      refine iteT ?_
      refine w_makeK ?_
      refine w_cons ?_
      obtain ⟨u138, F139, r140, su141, kx142, ku143⟩ := itm_tup (n := 0) at0 r131
      obtain ⟨rfl, rfl⟩ := r140
      refine c_val (ku143 (val_var rfl) val_c) ?_
      refine w_cons ?_
      obtain ⟨u144, F145, r146, su147, kx148, ku149⟩ := itm_tup (n := 1) (atS at0) r131
      obtain ⟨rfl, rfl⟩ := r146
      refine c_val (ku149 (val_var rfl) val_c) ?_
      refine w_cons ?_
      refine w_cb ?_
      obtain ⟨u150, F151, r152, su153, kx154, ku155⟩ := itm_tup (n := 2) (atS (atS at0)) r131
      have d156 : Dj F151 F80 := Dj.sub (d134) su153
      have d157 : Dj F151 [D54] := Dj.sub (d135) su153
      have d158 : Dj F151 [D117] := Dj.sub (d136) su153
      have n159 : ∀ a ∈ F151, H0 a = none := fun a h => n137 a (su153 a h)
      refine w_args (va_cons (ku155 (val_var rfl) val_c) va_nil) ?_
      refine w_listL r152 fun p160 H164 np163 c161 r162 => ?_
      have d165 : Dj F80 [p160] := Ty.nin r79 np163
      have d166 : Dj [D54] [p160] := Ty.nin r55 np163
      have d167 : Dj F110 [p160] := Ty.nin r109 np163
      have d168 : Dj F132 [p160] := Ty.nin r131 np163
      have d169 : Dj [D117] [p160] := Ty.nin r118 np163
      have d170 : Dj F151 [p160] := Ty.nin r152 np163
      have n171 : ∀ a ∈ [p160], H0 a = none := one_fresh (c0.dom p160 np163)
      have r0 := Ty.fz r0 c161
      have r79 := Ty.ex r79 c161
      have r55 := Ty.ex r55 c161
      have r109 := Ty.ex r109 c161
      have r131 := Ty.ex r131 c161
      have r118 := Ty.ex r118 c161
      have r152 := Ty.ex r152 c161
      have c0 := c0.trans c161.none
      refine w_nil ?_
      obtain ⟨u172, F173, r174, su175, kx176, ku177⟩ := itm_tup (n := 3) (atS (atS (atS at0))) r131
      obtain ⟨rfl, rfl⟩ := r174
      obtain ⟨u178, F179, r180, su181, kx182, ku183⟩ := itm_tup (n := 4) (atS (atS (atS (atS at1)))) r131
      obtain ⟨rfl, rfl⟩ := r180
      refine w_args (va_cons (ku177 (val_var rfl) val_c) (va_cons (ku183 (val_var rfl) val_c) va_nil)) ?_
      refine ⟨rfl, rfl, ?_⟩
      intro p184 dx185 nx186 ndx187 nex188
      have d189 : Dj F80 [p184] := Ty.nin r79 nx186
      have d190 : Dj [D54] [p184] := Ty.nin r55 nx186
      have d191 : Dj F110 [p184] := Ty.nin r109 nx186
      have d192 : Dj F132 [p184] := Ty.nin r131 nx186
      have d193 : Dj [D117] [p184] := Ty.nin r118 nx186
      have d194 : Dj [p160] [p184] := Ty.nin r162 nx186
      have n195 : ∀ a ∈ [p184], H0 a = none := one_fresh (c0.dom p184 nx186)
      obtain ⟨c196, r197⟩ := make_new (K := K) (C := C_Report) nx186 ndx187 nex188
      have r0 := Ty.fz r0 c196
      have r79 := Ty.ex r79 c196
      have r55 := Ty.ex r55 c196
      have r109 := Ty.ex r109 c196
      have r131 := Ty.ex r131 c196
      have r118 := Ty.ex r118 c196
      have r162 := Ty.ex r162 c196
      have c0 := c0.trans c196.none
      obtain ⟨q198, hq198, hbe115⟩ := Mi.bnd hbe115
      refine ⟨p184, dx185, x127.1, x127.2.1, (.ref p160), [p160], x127.2.2.1, x127.2.2.2.1, x127.2.2.2.2, q198, rfl, r197, r162, d194.symm, hq198, fun H200 c199 r201 => ⟨rfl, ?_⟩⟩
      have r0 := Ty.fz r0 c199
      have r79 := Ty.chg r79 c199 d189
      have r55 := Ty.chg r55 c199 d190
      have r109 := Ty.chg r109 c199 d191
      have r131 := Ty.chg r131 c199 d192
      have r118 := Ty.chg r118 c199 d193
      have c0 := c0.join c199 (fun a h => .inr (n195 a h))
      obtain ⟨x202, hx202, hbe115⟩ := Mi.bnd hbe115
      refine e_app r118 r201 hx202 fun H204 c203 r118 => ?_
      have r0 := Ty.fz r0 c203
      have r79 := Ty.chg r79 c203 d119
      have r55 := Ty.chg r55 c203 d120
      have r109 := Ty.chg r109 c203 d121
      have r131 := Ty.chg r131 c203 d136
      have c0 := c0.join c203 (fun a h => .inr (n122 a h))
      obtain rfl := Option.some.inj hbe115
      exact ⟨_, c0, r0, r79, r55, r109, r118, d119, d120, d121, n122, hle115⟩
    obtain ⟨s116, c0, r0, r79, r55, r109, r118, d119, d120, d121, n122, hle115⟩ := hp
    obtain rfl := Mi.forN_end hle115
    refine g_name (σ' := [some v0, some v78, some (.int q22.1), some (.int size41), some (.ref D54), some (.int q99.1), some v108, some (.ref D117), none, none, none, none]) rfl ?_
    refine q_ifS ?_
    refine w_not ?_
    refine w_B ?_
    refine w_call ?_
    refine w_args (va_cons (val_var rfl) (va_cons (val_var rfl) (va_cons (val_var rfl) va_nil))) ?_
    obtain ⟨q205, hq205, hm⟩ := Mi.bnd hm
    refine ⟨(.ref D117), [D117], s116, v108, F110, q105.1, (.ref D54), [D54], s53.1, q205, rfl, r118, r109, r55, hq205, fun H207 c206  => ?_⟩
    have r0 := Ty.fz r0 c206
    have r79 := Ty.ex r79 c206
    have r55 := Ty.ex r55 c206
    have r109 := Ty.ex r109 c206
    have r118 := Ty.ex r118 c206
    have c0 := c0.trans c206.none
    refine ⟨_, rfl, ?_⟩
    refine c_if (fun hb => ?_) (fun hb => ?_)
    ·
      replace hm := Mi.ifT hb hm
      refine q_ret ?_
      refine c_val val_c ?_
      obtain rfl := Option.some.inj hm
      exact hQ _ c0 
    replace hm := Mi.ifF hb hm
    refine w_fall ?_
    refine q_asg ?_
    refine w_call ?_
    refine w_args (va_cons (val_var rfl) (va_cons val_c va_nil)) ?_
    obtain ⟨q208, hq208, hm⟩ := Mi.bnd hm
    refine ⟨v0, d0, (3 : Int), q208, rfl, r0, hq208, fun v211 H210 F213 c209 r212 fr214  => ?_⟩
    have d215 : Dj F80 F213 := Ty.fresh r79 fr214
    have d216 : Dj [D54] F213 := Ty.fresh r55 fr214
    have d217 : Dj F110 F213 := Ty.fresh r109 fr214
    have d218 : Dj [D117] F213 := Ty.fresh r118 fr214
    have n219 : ∀ a ∈ F213, H0 a = none := fun a h => c0.dom a (fr214 a h)
    have r0 := Ty.fz r0 c209
    have r79 := Ty.ex r79 c209
    have r55 := Ty.ex r55 c209
    have r109 := Ty.ex r109 c209
    have r118 := Ty.ex r118 c209
    have c0 := c0.trans c209.none
    refine g_name (σ' := [some v0, some v211, some (.int q22.1), some (.int size41), some (.ref D54), some (.int q99.1), some v108, some (.ref D117), none, none, none, none]) rfl ?_
    refine q_for ?_
    refine w_iRng1 ?_
    refine w_cons ?_
    refine w_call ?_
    refine w_args (va_cons (val_var rfl) (va_cons (val_lenL r55 (val_var rfl)) va_nil)) ?_
    obtain ⟨q220, hq220, hm⟩ := Mi.bnd hm
    refine ⟨v211, F213, q208, (s53.1.length : Int), q220, rfl, r212, hq220, fun H222 c221 r212 => ?_⟩
    have r0 := Ty.fz r0 c221
    have r55 := Ty.chg r55 c221 d216
    have r109 := Ty.chg r109 c221 d217
    have r118 := Ty.chg r118 c221 d218
    have c0 := c0.join c221 (fun a h => .inr (n219 a h))
    refine w_nil ?_
    obtain ⟨g223, hg223, hm⟩ := Mi.bnd hm
    obtain ⟨e224, he224, hm⟩ := Mi.bnd hm
    refine l_rng1 hg223 (fun i σ' H' => ∃ (s225 : (List Int)) (y226 : Option V), σ' = [some v0, some v211, some (.int q22.1), some (.int size41), some (.ref D54), some (.int q99.1), some v108, some (.ref D117), y226, none, none, none] ∧ Chg ([] : List Addr) H0 H' ∧ yScr.rep K H' [] v0 d0 ∧ (yLst yInt).rep K H' F213 v211 q220.2 ∧ (yLst yInt).rep K H' [D54] (.ref D54) s225 ∧ (yLsg (yTup (sCons yInt (sCons yInt (sCons (yLst yInt) (sCons yInt (sOne yBool))))))).rep K H' F110 v108 q105.1 ∧ (yLst (yObj C_Report nm_Report ty_Report)).rep K H' [D117] (.ref D117) s116 ∧ Mi.forN (Mi.m_law_b3) s225 (List.drop i g223) = some e224) ⟨s53.1, none, rfl, c0, r0, r212, r55, r109, r118, he224⟩ (fun i229 x228 σ' H' hx227 hp => ?_) (fun σ' H' hp => ?_)
    ·
      obtain ⟨s225, y226, rfl, c0, r0, r212, r55, r109, r118, hle224⟩ := hp
      obtain ⟨_, hbe224, hle224⟩ := Mi.forN_go hle224 hx227
      unfold Mi.m_law_b3 at hbe224
      refine g_name (σ' := [some v0, some v211, some (.int q22.1), some (.int size41), some (.ref D54), some (.int q99.1), some v108, some (.ref D117), some (.int x228), none, none, none]) rfl ?_
      refine q_drop (w_bm0 (c_val (val_var rfl) ⟨tyv_lst r55, ?_⟩))
      obtain ⟨x230, hx230, hbe224⟩ := Mi.bnd hbe224
      refine m_pop r55 hx230 fun u233 H232 c231 r234 r55 => ?_
      have r0 := Ty.fz r0 c231
      have r212 := Ty.chg r212 c231 d216.symm
      have r109 := Ty.chg r109 c231 d113.symm
      have r118 := Ty.chg r118 c231 d120.symm
      have c0 := c0.join c231 (fun a h => .inr (n57 a h))
      refine w_nextJ ?_
      obtain rfl := Option.some.inj hbe224
      exact ⟨_, (some (.int x228)), rfl, c0, r0, r212, r55, r109, r118, hle224⟩
    obtain ⟨s225, y226, rfl, c0, r0, r212, r55, r109, r118, hle224⟩ := hp
    obtain rfl := Mi.forN_end hle224
    refine q_ifS ?_
    refine w_not ?_
    refine w_B ?_
    refine w_call ?_
    refine w_args (va_cons (val_var rfl) (va_cons (val_var rfl) (va_cons (val_var rfl) va_nil))) ?_
    obtain ⟨q235, hq235, hm⟩ := Mi.bnd hm
    refine ⟨(.ref D117), [D117], s116, v108, F110, q105.1, (.ref D54), [D54], s225, q235, rfl, r118, r109, r55, hq235, fun H237 c236  => ?_⟩
    have r0 := Ty.fz r0 c236
    have r212 := Ty.ex r212 c236
    have r55 := Ty.ex r55 c236
    have r109 := Ty.ex r109 c236
    have r118 := Ty.ex r118 c236
    have c0 := c0.trans c236.none
    refine ⟨_, rfl, ?_⟩
    refine c_if (fun hb => ?_) (fun hb => ?_)
    ·
      replace hm := Mi.ifT hb hm
      refine q_ret ?_
      refine c_val val_c ?_
      obtain rfl := Option.some.inj hm
      exact hQ _ c0 
    replace hm := Mi.ifF hb hm
    refine w_fall ?_
    obtain ⟨s238, hs238, hm⟩ := Mi.bnd hm
    refine s_join (R := fun σ' H' => ∃ (y243 : Option V) (v239 : V) (F241 : List Addr), σ' = [some v0, some v211, some (.int q22.1), some (.int size41), some (.ref D54), some (.int q99.1), some v239, some (.ref D117), y226, y243, none, none] ∧ Chg ([] : List Addr) H0 H' ∧ yScr.rep K H' [] v0 d0 ∧ (yLst yInt).rep K H' F213 v211 s238.1 ∧ (yLst yInt).rep K H' [D54] (.ref D54) s225 ∧ (yLsg (yTup (sCons yInt (sCons yInt (sCons (yLst yInt) (sCons yInt (sOne yBool))))))).rep K H' F241 v239 s238.2.1 ∧ (yLst (yObj C_Report nm_Report ty_Report)).rep K H' [D117] (.ref D117) s238.2.2 ∧ (∀ a ∈ F241, H0 a = none) ∧ Dj F241 F213 ∧ Dj F241 [D54] ∧ Dj F241 [D117]) (fun nx kx => ?_) (fun σ' H' hj => ?_)
    ·
      refine s_if (ans_t (val_gt (val_lenG r109 (val_var rfl)) val_c)) (fun hb => ?_) (fun hb => ?_)
      ·
        replace hs238 := Mi.ifT hb hs238
        refine q_asg ?_
        refine w_call ?_
        refine w_args (va_cons (val_var rfl) (va_cons (val_lenG r109 (val_var rfl)) va_nil)) ?_
        obtain ⟨q247, hq247, hs238⟩ := Mi.bnd hs238
        refine ⟨v211, F213, q220.2, (q105.1.length : Int), q247, rfl, r212, hq247, fun H249 c248 r212 => ?_⟩
        have r0 := Ty.fz r0 c248
        have r55 := Ty.chg r55 c248 d216
        have r109 := Ty.chg r109 c248 d217
        have r118 := Ty.chg r118 c248 d218
        have c0 := c0.join c248 (fun a h => .inr (n219 a h))
        refine g_name (σ' := [some v0, some v211, some (.int q22.1), some (.int size41), some (.ref D54), some (.int q99.1), some v108, some (.ref D117), y226, some (.int q247.1), none, none]) rfl ?_
        refine q_drop (w_bm (c_val (val_var rfl) ⟨tyv_lsg r109, ?_⟩))
        refine w_args (va_cons (val_var rfl) va_nil) ?_
        obtain ⟨z250, hz250, hs238⟩ := Mi.bnd hs238
        obtain ⟨x251, hx251, hs238⟩ := Mi.bnd hs238
        refine m_popAtG r109 hx251 (of_guard hz250) fun u254 H253 F256 c252 r255 su257 r109 => ?_
        have r0 := Ty.fz r0 c252
        have r212 := Ty.chg r212 c252 d217.symm
        have r55 := Ty.chg r55 c252 d113
        have r118 := Ty.chg r118 c252 d121.symm
        have c0 := c0.join c252 (fun a h => .inr (n114 a h))
        refine q_drop (w_bm (c_val (val_var rfl) ⟨tyv_lst r118, ?_⟩))
        refine w_args (va_cons (val_var rfl) va_nil) ?_
        obtain ⟨z258, hz258, hs238⟩ := Mi.bnd hs238
        obtain ⟨x259, hx259, hs238⟩ := Mi.bnd hs238
        refine m_popAt r118 hx259 (of_guard hz258) fun u262 H261 c260 r263 r118 => ?_
        have r0 := Ty.fz r0 c260
        have r212 := Ty.chg r212 c260 d218.symm
        have r55 := Ty.chg r55 c260 d120
        have r109 := Ty.chg r109 c260 d121
        have c0 := c0.join c260 (fun a h => .inr (n122 a h))
        refine w_nextJ ?_
        obtain rfl := Option.some.inj hs238
        exact kx _ _ ⟨(some (.int q247.1)), v108, F110, rfl, c0, r0, r212, r55, r109, r118, n114, d217, d113.symm, d121⟩
      ·
        replace hs238 := Mi.ifF hb hs238
        refine w_nextJ ?_
        obtain rfl := Option.some.inj hs238
        exact kx _ _ ⟨none, v108, F110, rfl, c0, r0, r212, r55, r109, r118, n114, d217, d113.symm, d121⟩
    obtain ⟨y243, v239, F241, rfl, c0, r0, r212, r55, r240, r118, n242, d244, d245, d246⟩ := hj
    obtain ⟨s264, hs264, hm⟩ := Mi.bnd hm
    refine s_join (R := fun σ' H' => ∃ (y269 : Option V) (v265 : V) (F267 : List Addr), σ' = [some v0, some v211, some (.int q22.1), some (.int size41), some (.ref D54), some (.int q99.1), some v265, some (.ref D117), y226, y269, none, none] ∧ Chg ([] : List Addr) H0 H' ∧ yScr.rep K H' [] v0 d0 ∧ (yLst yInt).rep K H' [D54] (.ref D54) s225 ∧ (yLsg (yTup (sCons yInt (sCons yInt (sCons (yLst yInt) (sCons yInt (sOne yBool))))))).rep K H' F267 v265 s264.1 ∧ (yLst (yObj C_Report nm_Report ty_Report)).rep K H' [D117] (.ref D117) s264.2 ∧ (∀ a ∈ F267, H0 a = none) ∧ Dj F267 [D54] ∧ Dj F267 [D117]) (fun nx kx => ?_) (fun σ' H' hj => ?_)
    ·
      refine s_if (ans_t (val_gt (val_lenG r240 (val_var rfl)) val_c)) (fun hb => ?_) (fun hb => ?_)
      ·
        replace hs264 := Mi.ifT hb hs264
        refine q_asg ?_
        refine w_call ?_
        refine w_args (va_cons (val_var rfl) (va_cons (val_lenG r240 (val_var rfl)) va_nil)) ?_
        obtain ⟨q272, hq272, hs264⟩ := Mi.bnd hs264
        refine ⟨v211, F213, s238.1, (s238.2.1.length : Int), q272, rfl, r212, hq272, fun H274 c273 r212 => ?_⟩
        have r0 := Ty.fz r0 c273
        have r55 := Ty.chg r55 c273 d216
        have r240 := Ty.chg r240 c273 d244
        have r118 := Ty.chg r118 c273 d218
        have c0 := c0.join c273 (fun a h => .inr (n219 a h))
        refine g_name (σ' := [some v0, some v211, some (.int q22.1), some (.int size41), some (.ref D54), some (.int q99.1), some v239, some (.ref D117), y226, some (.int q272.1), none, none]) rfl ?_
        refine q_drop (w_bm (c_val (val_var rfl) ⟨tyv_lsg r240, ?_⟩))
        obtain ⟨x275, hx275, hs264⟩ := Mi.bnd hs264
        obtain ⟨u276, F277, r278, su279, ap280, kx281, ku282⟩ := itm_G r240 hx275
        have d283 : Dj F277 F213 := Dj.sub (d244) su279
        have d284 : Dj F277 [D54] := Dj.sub (d245) su279
        have d285 : Dj F277 [D117] := Dj.sub (d246) su279
        have n286 : ∀ a ∈ F277, H0 a = none := fun a h => n242 a (su279 a h)
        refine w_args (va_cons (ku282 (val_var rfl) (val_var rfl)) va_nil) ?_
        obtain ⟨x287, hx287, hs264⟩ := Mi.bnd hs264
        refine m_appG r240 r278 ap280 hx287 fun H291 F292 c290 r240 sa293 sb294 => ?_
        have r0 := Ty.fz r0 c290
        have r212 := Ty.chg r212 c290 d244.symm
        have r55 := Ty.chg r55 c290 d245.symm
        have r118 := Ty.chg r118 c290 d246.symm
        have c0 := c0.join c290 (fun a h => .inr (n242 a h))
        have d295 : Dj F213 F292 := Dj.grow (d244.symm) (d283.symm) sb294
        have d296 : Dj [D54] F292 := Dj.grow (d245.symm) (d284.symm) sb294
        have d297 : Dj [D117] F292 := Dj.grow (d246.symm) (d285.symm) sb294
        have n298 : ∀ a ∈ F292, H0 a = none := fresh_grow n242 n286 sb294
        refine q_drop (w_bm (c_val (val_var rfl) ⟨tyv_lst r118, ?_⟩))
        obtain ⟨x299, hx299, hs264⟩ := Mi.bnd hs264
        obtain ⟨u300, r301, ku302⟩ := itm_L r118 hx299
        refine w_args (va_cons (ku302 (val_var rfl) (val_var rfl)) va_nil) ?_
        obtain ⟨x303, hx303, hs264⟩ := Mi.bnd hs264
        refine m_app r118 r301 hx303 fun H305 c304 r118 => ?_
        have r0 := Ty.fz r0 c304
        have r212 := Ty.chg r212 c304 d218.symm
        have r55 := Ty.chg r55 c304 d120
        have r240 := Ty.chg r240 c304 d297.symm
        have c0 := c0.join c304 (fun a h => .inr (n122 a h))
        refine w_nextJ ?_
        obtain rfl := Option.some.inj hs264
        exact kx _ _ ⟨(some (.int q272.1)), v239, F292, rfl, c0, r0, r55, r240, r118, n298, d296.symm, d297.symm⟩
      ·
        replace hs264 := Mi.ifF hb hs264
        refine w_nextJ ?_
        obtain rfl := Option.some.inj hs264
        exact kx _ _ ⟨y243, v239, F241, rfl, c0, r0, r55, r240, r118, n242, d245, d246⟩
    obtain ⟨y269, v265, F267, rfl, c0, r0, r55, r266, r118, n268, d270, d271⟩ := hj
    refine q_ret ?_
    refine w_call ?_
    refine w_args (va_cons (val_var rfl) (va_cons (val_var rfl) (va_cons (val_var rfl) va_nil))) ?_
    obtain ⟨q306, hq306, hm⟩ := Mi.bnd hm
    refine ⟨(.ref D117), [D117], s264.2, v265, F267, s264.1, (.ref D54), [D54], s225, q306, rfl, r118, r266, r55, hq306, fun H308 c307  => ?_⟩
    have r0 := Ty.fz r0 c307
    have r55 := Ty.ex r55 c307
    have r266 := Ty.ex r266 c307
    have r118 := Ty.ex r118 c307
    have c0 := c0.trans c307.none
    obtain rfl := Option.some.inj hm
    exact hQ _ c0 
end
end G

set_option maxHeartbeats 0
namespace G
open PySem PySem.Spec PyProof.Rows L2
theorem fun_of {K : PySem.W.Frag} {x q : Str} {st : Stmt} {f : Addr} {fd : FuncData} (F : FunD K x q (defArgs st) (defBody st) (defScope st) [] [] f fd) : Fun K x q st f fd := by
  obtain ⟨oc, od, dV, kV, doc, pm, an, cdv, ct, osl, e, lk, hcd, hd, _⟩ := F.ex
  rcases hd with ⟨_, rfl⟩ | ⟨z, _⟩
  · exact ⟨⟨oc, od, kV, doc, pm, an, cdv, ct, osl, e, lk, hcd⟩, F.kp⟩
  · exact absurd rfl z
def dOf (x : Str) (i : Nat) : He.DefD := ⟨(x, none), x, x, defArgs (topS i), defBody (topS i), defScope (topS i), [], []⟩
def dOfM (c m qual : Str) (st : Stmt) (kw : List (Str × He.Dv)) : He.DefD := ⟨(c, some m), m, qual, defArgs st, defBody st, defScope st, [], kw⟩
def fnL : List He.DefD := [dOf "ascending" 4, dOf "is_zone" 5, dOfM "Report" "__init__" "Report.__init__" s_Report_init [("weight", .int 1), ("inside", .bl true)], dOfM "Report" "allows" "Report.allows" s_Report_allows [], dOf "unmet" 12, dOf "_law_hand" 14, dOf "_law_pick" 15, dOf "_law_int" 16, dOf "_law_places" 17, dOf "_law_wild" 18, dOf "_law_due" 19, dOf "_law_are_numbers" 20, dOf "_law_stays" 21, dOf "_law_unmet_hold" 22, dOf "law" 23]
def faL : List He.Fa := [.glo "ascending", .glo "is_zone", .mkr "Report", .meth "Report" "allows", .glo "unmet", .glo "_law_hand", .glo "_law_pick", .glo "_law_int", .glo "_law_places", .glo "_law_wild", .glo "_law_due", .glo "_law_are_numbers", .glo "_law_stays", .glo "_law_unmet_hold", .glo "law", .free "len", .free "range", .free "int", .free "bool", .free "isinstance", .free "max", .free "min", .free "list", .free "tuple", .free "sorted", .free "set", .free "enumerate", .free "zip", .free "reversed", .free "sum", .free "any", .free "all", .free "str", .int "LAST_HOUR" 24, .int "LAST_SHIP" 3, .int "MOST_WEIGHT" 99, .int "PLACES" 12, .glo "Report", .cls "Report", .noat "Report" "ship", .noat "Report" "hour", .noat "Report" "zone", .noat "Report" "weight", .noat "Report" "inside"]
abbrev R : PySem.W.OpenRow := PySem.W.OpenLaw.row PySem.Challenge.rw_fogfleet_k17_unmet_reports
abbrev hk : PySem.W.Hook := He.hookD 4 faL fnL
def ob (s : PySem.W.SharedT) : He.AlD := He.obsDG 4 faL fnL (HandSHeadRun.getT s)
theorem ob_eq (s : PySem.W.SharedT) : ob s = hk.obs s.abs := He.obsDG_eq (HandSHeadRun.getT_eq s)
def looseL : List Str := (["FleetError", "InvalidReport", "ascending", "is_zone", "LAST_SHIP", "LAST_HOUR", "PLACES", "MOST_WEIGHT", "Report", "unmet", "_law_hand", "_law_pick", "_law_int", "_law_places", "_law_wild", "_law_due", "_law_are_numbers", "_law_stays", "_law_unmet_hold"] : List Str)
theorem run (w : World) : HandSHeadRun.RunEq R (PySem.W.view R.prog [23]) hk ob 6000 looseL w := by
  intro os
  kernel_rfl
theorem dfn_of {K : PySem.W.Frag} {h : Heap} {mg : Str → Option Value} (X : K.In h) (G : h.Ns mainGlobals mg) (c : He.SaysD faL fnL K) (i j k : Nat) (x : Str) (hi : fnL[i]? = some (dOf x k)) (hj : faL[j]? = some (.glo x)) : Dfn K mg x (topS k) := by
  obtain ⟨fd, F⟩ := c.def_ i hi
  exact ⟨⟨_, fd, fun_of F, He.glo_ok X G (c.fact j hj)⟩⟩
theorem dfnM_of {K : PySem.W.Frag} (c : He.SaysD faL fnL K) (i j : Nat) (C m qual : Str) (st : Stmt) (hi : fnL[i]? = some (dOfM C m qual st [])) (hj : faL[j]? = some (.meth C m)) : DfnM K (He.ga K C) m qual st := by
  obtain ⟨fd, F⟩ := c.def_ i hi
  exact ⟨⟨_, fd, fun_of F, He.meth_ok (c.fact j hj)⟩⟩
theorem dfnI_of {K : PySem.W.Frag} (c : He.SaysD faL fnL K) (i j : Nat) (C qual : Str) (st : Stmt) (kw : List (Str × He.Dv)) (hi : fnL[i]? = some (dOfM C "__init__" qual st kw)) (hj : faL[j]? = some (.mkr C)) : DfnI K (He.ga K C) qual st (kw.map fun q => (q.1, q.2.v K)) := by
  obtain ⟨fd, F⟩ := c.def_ i hi
  exact ⟨⟨_, fd, F, He.mkr_ok (c.fact j hj)⟩⟩
theorem facts {P : Program} {w : World} {K : PySem.W.Frag} {h : Heap} {mg : Str → Option Value} (X : K.In h) (G : h.Ns mainGlobals mg) (c : He.SaysD faL fnL K) {fa : Addr} (hfa : mg ("law" : Str) = some (.ref fa)) :
    ∃ fd : FuncData, (∀ (s : Shared) (v : Value), BindsTo s fd ⟨[v], []⟩ [("_law_script", v)]) ∧ ∀ base : Heap, K.In base → base.Ns mainGlobals mg → FnOk P w K mg base CX0 4 fa fd ["_law_script"] (sp_law K) := by
  have B : Bi mg := ⟨He.free_ok X G (c.fact 15 rfl), He.free_ok X G (c.fact 16 rfl), He.free_ok X G (c.fact 17 rfl), He.free_ok X G (c.fact 18 rfl), He.free_ok X G (c.fact 19 rfl), He.free_ok X G (c.fact 20 rfl), He.free_ok X G (c.fact 21 rfl), He.free_ok X G (c.fact 22 rfl), He.free_ok X G (c.fact 23 rfl), He.free_ok X G (c.fact 24 rfl), He.free_ok X G (c.fact 25 rfl), He.free_ok X G (c.fact 26 rfl), He.free_ok X G (c.fact 27 rfl), He.free_ok X G (c.fact 28 rfl), He.free_ok X G (c.fact 29 rfl), He.free_ok X G (c.fact 30 rfl), He.free_ok X G (c.fact 31 rfl), He.free_ok X G (c.fact 32 rfl)⟩
  have CN : Cs mg := ⟨He.int_ok X G (c.fact 33 rfl), He.int_ok X G (c.fact 34 rfl), He.int_ok X G (c.fact 35 rfl), He.int_ok X G (c.fact 36 rfl)⟩
  have T_Report : Tx K mg (He.ga K "Report") "Report" nm_Report := ⟨He.cls_ok (c.fact 38 rfl), He.glo_ok X G (c.fact 37 rfl), fun f hf => by
    simp only [List.mem_cons, List.not_mem_nil, or_false] at hf
    rcases hf with rfl | rfl | rfl | rfl | rfl
    · exact He.noat_ok (c.fact 39 rfl)
    · exact He.noat_ok (c.fact 40 rfl)
    · exact He.noat_ok (c.fact 41 rfl)
    · exact He.noat_ok (c.fact 42 rfl)
    · exact He.noat_ok (c.fact 43 rfl)⟩
  have C_ascending : Cal P w K mg "ascending" ["zone"] 1 (sp_ascending K) := ok_ascending B CN (dfn_of X G c 0 0 4 "ascending" rfl rfl)
  have C_is_zone : Cal P w K mg "is_zone" ["zone", "size"] 1 (sp_is_zone K) := ok_is_zone B CN (dfn_of X G c 1 1 5 "is_zone" rfl rfl)
  have I_Report : CalI P w K mg (He.ga K "Report") "Report.__init__" s_Report_init kw_Report ["self", "ship", "hour", "zone", "weight", "inside"] 2 (sp_Report_init K (He.ga K "Report")) := ok_Report_init B CN T_Report C_ascending C_is_zone (dfnI_of c 2 2 "Report" "Report.__init__" s_Report_init [("weight", .int 1), ("inside", .bl true)] rfl rfl)
  have M_Report_allows : CalM P w K mg (He.ga K "Report") "allows" ["self", "place"] 1 (sp_Report_allows K (He.ga K "Report")) := ok_Report_allows B CN T_Report (dfnM_of c 3 3 "Report" "allows" "Report.allows" s_Report_allows rfl rfl)
  have C_unmet : Cal P w K mg "unmet" ["reports", "ship", "driving"] 2 (sp_unmet K (He.ga K "Report")) := ok_unmet B CN (dfn_of X G c 4 4 12 "unmet" rfl rfl) T_Report M_Report_allows
  have C_l_hand : Cal P w K mg "_law_hand" ["_law_script", "_law_k"] 1 (sp_l_hand K) := ok_l_hand B CN (dfn_of X G c 5 5 14 "_law_hand" rfl rfl)
  have C_l_pick : Cal P w K mg "_law_pick" ["_law_hand_here", "_law_size"] 1 (sp_l_pick K) := ok_l_pick B CN (dfn_of X G c 6 6 15 "_law_pick" rfl rfl)
  have C_l_int : Cal P w K mg "_law_int" ["_law_x"] 1 (sp_l_int K) := ok_l_int B CN (dfn_of X G c 7 7 16 "_law_int" rfl rfl)
  have C_l_places : Cal P w K mg "_law_places" ["_law_code"] 1 (sp_l_places K) := ok_l_places B CN (dfn_of X G c 8 8 17 "_law_places" rfl rfl)
  have C_l_wild : Cal P w K mg "_law_wild" ["_law_hand_here", "_law_count", "_law_last", "_law_number"] 2 (sp_l_wild K) := ok_l_wild B CN (dfn_of X G c 9 9 18 "_law_wild" rfl rfl) C_l_pick C_l_places
  have C_l_due : Cal P w K mg "_law_due" ["_law_notes", "_law_ship", "_law_path"] 1 (sp_l_due K) := ok_l_due B CN (dfn_of X G c 10 10 19 "_law_due" rfl rfl)
  have C_l_are_numbers : Cal P w K mg "_law_are_numbers" ["_law_told", "_law_due_here"] 2 (sp_l_are_numbers K) := ok_l_are_numbers B CN (dfn_of X G c 11 11 20 "_law_are_numbers" rfl rfl) C_l_int
  have C_l_stays : Cal P w K mg "_law_stays" ["_law_handed", "_law_notes"] 1 (sp_l_stays K (He.ga K "Report")) := ok_l_stays B CN (dfn_of X G c 12 12 21 "_law_stays" rfl rfl) T_Report
  have C_l_unmet_hold : Cal P w K mg "_law_unmet_hold" ["_law_handed", "_law_notes", "_law_places_here"] 3 (sp_l_unmet_hold K (He.ga K "Report")) := ok_l_unmet_hold B CN (dfn_of X G c 13 13 22 "_law_unmet_hold" rfl rfl) T_Report C_unmet C_l_due C_l_are_numbers C_l_stays
  have C_law : Cal P w K mg "law" ["_law_script"] 4 (sp_law K) := ok_law B CN (dfn_of X G c 14 14 23 "law" rfl rfl) T_Report I_Report C_l_hand C_l_pick C_l_wild C_l_unmet_hold
  exact fn_law hfa C_law
end G

open PySem PySem.W PySem.Calls PyProof.Rows
theorem PySem.Challenge.cw_fogfleet_k17_unmet_reports_holds : PySem.Challenge.rw_fogfleet_k17_unmet_reports.Holds := by
  w_on; o_law
  refine HandSHeadRun.head_any (r := OpenLaw.row PySem.Challenge.rw_fogfleet_k17_unmet_reports) (q := view (OpenLaw.row PySem.Challenge.rw_fogfleet_k17_unmet_reports).prog [23]) (H := G.hk) (ob := G.ob) (M := 6000) (loose := G.looseL) (d := HandSHeadRun.topDef (OpenLaw.row PySem.Challenge.rw_fogfleet_k17_unmet_reports).prog 23) (kwd := []) G.ob_eq
    (by kernel_rfl) (fun s => by kernel_rfl) G.run (by kernel_rfl) (by kernel_rfl) (by kernel_rfl) (by rfl) (by first | assumption | decide +kernel) (by decide +kernel) ⟨rfl, rfl, rfl, rfl, rfl, by decide +kernel⟩ ?hw ?hc
  case hw => w_witness2
  case hc =>
    refine L2.walk_ofE (l := PySem.Challenge.rw_fogfleet_k17_unmet_reports) (n := 63) (k := 4) (x := "_law_script") (CX := L2.CX0) rfl (by decide) (by kernel_rfl) ⟨rfl, by decide, by decide⟩ ?F (fun _ _ _ _ z => z)
    intro w mg fa h Y G0 hmg0
    obtain ⟨K, KX, c⟩ := Y
    have hmg : mg ("law" : PySem.Str) = some (.ref fa) := by
      have e : (HandSHeadRun.topDef (OpenLaw.row PySem.Challenge.rw_fogfleet_k17_unmet_reports).prog 23).name = ("law" : PySem.Str) := by kernel_rfl
      rw [← e]
      exact hmg0
    obtain ⟨fd, hb, hF⟩ := G.facts (P := (PySem.Challenge.rw_fogfleet_k17_unmet_reports).prog) (w := w) KX G0 c hmg
    exact ⟨K, fd, G.sp_law K, KX, hb, fun H a ns hl hO hS => ⟨_, ns, true, rfl, G.yScr_of hO hS, Mi.law_true ns hl, fun _ _ => rfl⟩, hF⟩
