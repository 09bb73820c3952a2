import PyProof.Rows.All
import Wide.All
import OpenK.AllK
import Wide.FinOn
import HandS.ForMost
import HandS.ForExc
import HandS.Wide
import HandS.IsInst
import HandS.Flow
import HandS.Defaults
import HandS.SortInts
import HandS.Strs
import HandS.TupSets
import HandS.MakeKw
import HandS.MakeKwOnly
import HandS.Conv
import HandS.Steps
import KE.GoesMore
import HandS.Text
import HandS.Iter
import HandS.SortRule
import HandS.TupLe
import HandS.HeadHook1
import HandS.HeadHook2
import HandS.Deep
import KE.KRevSl
import HandS.Rev
import HandS.RevTup
import HandS.IterVal
import HandS.OwnIter
import KE.KSuper
import KE.KExcSuper
import KE.KExcIs
import HandS.ExcField
import HandS.ExcOwn
import HandS.WordsExc
import HandS.Head0
import HandS.FStr
import HandS.Star
import PyProof.Rows.MatchSeqLen
import HandS.More
import HandS.Zip
import KE.GoesEnumKw
import HandS.HeadHook3
import KE.GoesEnum
import HandS.DeepEq
import KE.GoesZip
import HandS.GenCall
import HandS.GenList
import HandS.ExcCtx
import HandS.HotCalls
import KE.DataCmp
import HandS.SortKw
import HandS.DictComp
import HandS.SetBool
import HandS.DictTup
import KE.KDictPairs
import HandS.Head1
import HandS.Head2
import HandS.TupAny
import KE.KStateDown
import PyProof.ByEval2
import Lean
import HandS.HeadEnd
import PySem.Challenge.RW_fogfleet_k18_reports_refused
set_option Elab.async false
set_option linter.all false
set_option synthInstance.maxSize 1000
set_option maxRecDepth 100000
set_option maxHeartbeats 4000000
namespace Mi
def pyLet {α β : Type} (e : α) (f : α → β) : β := f e
def ixN (n : Nat) (i : Int) : Option Nat := if 0 ≤ i then (if i < n then some i.toNat else none) else if -(n : Int) ≤ i then some (i + n).toNat else none
def at_ {α : Type} (xs : List α) (i : Int) : Option α := (ixN xs.length i).bind fun j => xs[j]?
def setAt {α : Type} (xs : List α) (i : Int) (x : α) : Option (List α) := (ixN xs.length i).bind fun j => some (xs.set j x)
def sIx (n d : Nat) : Option Int → Nat
 | none => d
 | some v => if v < 0 then (v + (n : Int)).toNat else min v.toNat n
def cut {α : Type} (xs : List α) (lo hi : Option Int) : List α := (xs.drop (sIx xs.length 0 lo)).take (sIx xs.length xs.length hi - sIx xs.length 0 lo)
def big : Nat := 1000000
def app {α : Type} (xs : List α) (x : α) : Option (List α) := if xs.length < big then some (xs ++ [x]) else none
def cat {α : Type} (xs ys : List α) : Option (List α) := if xs.length + ys.length ≤ big then some (xs ++ ys) else none
def mul (i j : Int) : Option Int := if (-(2 ^ 64) < i ∧ i < 2 ^ 64) ∨ (-(2 ^ 64) < j ∧ j < 2 ^ 64) then some (i * j) else none
def mod (i j : Int) : Option Int := if 0 < j then some (i % j) else none
def fdiv (i j : Int) : Option Int := if 0 < j ∧ j < 2 ^ 200 then some (i / j) else none
def guardO (c : Bool) : Option Unit := if c = true then some () else none
def rng (lo hi : Int) : List Int := (List.range (hi - lo).toNat).map fun (k : Nat) => lo + (k : Int)
def forN {α σ : Type} (f : σ → α → Option σ) : σ → List α → Option σ
 | s, [] => some s
 | s, x :: xs => (f s x).bind fun s' => forN f s' xs
def forR {α σ ρ : Type} (f : σ → α → Option (ρ ⊕ σ)) : σ → List α → Option (ρ ⊕ σ)
 | s, [] => some (.inr s)
 | s, x :: xs => (f s x).bind fun
   | .inl r => some (.inl r)
   | .inr s' => forR f s' xs
theorem bnd {α β : Type} {m : Option α} {f : α → Option β} {r : β} (h : m.bind f = some r) : ∃ x, m = some x ∧ f x = some r := by
 cases m with
 | none => cases h
 | some x => exact ⟨x, rfl, h⟩
theorem letE {α β : Type} {e : α} {f : α → Option β} {r : Option β} (h : pyLet e f = r) : ∃ x, e = x ∧ f x = r := ⟨e, rfl, h⟩
theorem ifT {α : Type} {b : Bool} {x y : Option α} {r : Option α} (hb : b = true) (h : (if b = true then x else y) = r) : x = r := by
 rw [if_pos hb] at h; exact h
theorem ifF {α : Type} {b : Bool} {x y : Option α} {r : Option α} (hb : b = false) (h : (if b = true then x else y) = r) : y = r := by
 rw [hb, if_neg Bool.false_ne_true] at h; exact h
end Mi
namespace Mi
def rngO (lo hi : Int) : Option (List Int) := if (-(2 ^ 60) ≤ lo ∧ lo < 2 ^ 60) ∧ (-(2 ^ 60) ≤ hi ∧ hi < 2 ^ 60) then some (rng lo hi) else none
theorem forN_go {α σ : Type} {f : σ → α → Option σ} {s e : σ} {xs : List α} {i : Nat} {x : α} (h : forN f s (xs.drop i) = some e) (hx : xs[i]? = some x) : ∃ s', f s x = some s' ∧ forN f s' (xs.drop (i + 1)) = some e := by
 have hi : i < xs.length := (List.getElem?_eq_some_iff.mp hx).1
 have e1 : xs.drop i = x :: xs.drop (i + 1) := by
   rw [List.drop_eq_getElem_cons hi]
   congr 1
   exact (List.getElem?_eq_some_iff.mp hx).2
 rw [e1] at h
 exact bnd h
theorem forN_end {α σ : Type} {f : σ → α → Option σ} {s e : σ} {xs : List α} (h : forN f s (xs.drop xs.length) = some e) : s = e := by
 rw [List.drop_length] at h
 exact Option.some.inj h
theorem forR_go {α σ ρ : Type} {f : σ → α → Option (ρ ⊕ σ)} {s : σ} {e : ρ ⊕ σ} {xs : List α} {i : Nat} {x : α} (h : forR f s (xs.drop i) = some e) (hx : xs[i]? = some x) :
   ∃ o, f s x = some o ∧ ((∃ r, o = .inl r ∧ e = .inl r) ∨ ∃ s', o = .inr s' ∧ forR f s' (xs.drop (i + 1)) = some e) := by
 have hi : i < xs.length := (List.getElem?_eq_some_iff.mp hx).1
 have e1 : xs.drop i = x :: xs.drop (i + 1) := by
   rw [List.drop_eq_getElem_cons hi]
   congr 1
   exact (List.getElem?_eq_some_iff.mp hx).2
 rw [e1] at h
 obtain ⟨o, h1, h2⟩ := bnd h
 refine ⟨o, h1, ?_⟩
 cases o with
 | inl r => exact .inl ⟨r, rfl, (Option.some.inj h2).symm⟩
 | inr s' => exact .inr ⟨s', rfl, h2⟩
theorem forR_end {α σ ρ : Type} {f : σ → α → Option (ρ ⊕ σ)} {s : σ} {e : ρ ⊕ σ} {xs : List α} (h : forR f s (xs.drop xs.length) = some e) : e = .inr s := by
 rw [List.drop_length] at h
 exact (Option.some.inj h).symm
end Mi
namespace Mi
def orR {ρ σ : Type} (o : ρ ⊕ σ) (k : σ → Option ρ) : Option ρ := match o with
 | .inl r => some r
 | .inr s => k s
theorem orR_inl {ρ σ : Type} {r q : ρ} {k : σ → Option ρ} (h : orR (.inl r) k = some q) : some r = some q := h
theorem orR_inr {ρ σ : Type} {s : σ} {q : ρ} {k : σ → Option ρ} (h : orR (.inr s) k = some q) : k s = some q := h
theorem or_inl {ρ σ : Type} {r : ρ} {e : ρ ⊕ σ} {P : σ → Prop} (h : (∃ r', (Sum.inl r : ρ ⊕ σ) = .inl r' ∧ e = .inl r') ∨ ∃ s', (Sum.inl r : ρ ⊕ σ) = .inr s' ∧ P s') : e = .inl r := by
 rcases h with ⟨r', h1, h2⟩ | ⟨s', h1, _⟩
 · cases h1; exact h2
 · cases h1
theorem or_inr {ρ σ : Type} {s : σ} {e : ρ ⊕ σ} {P : σ → Prop} (h : (∃ r', (Sum.inr s : ρ ⊕ σ) = .inl r' ∧ e = .inl r') ∨ ∃ s', (Sum.inr s : ρ ⊕ σ) = .inr s' ∧ P s') : P s := by
 rcases h with ⟨r', h1, h2⟩ | ⟨s', h1, h2⟩
 · cases h1
 · cases h1; exact h2
end Mi
namespace Mi
def shl (i j : Int) : Option Int := if 0 ≤ j ∧ j ≤ 1000 ∧ -(2 ^ 64) < i ∧ i < 2 ^ 64 then some (i * 2 ^ j.toNat) else none
def shr (i j : Int) : Option Int := if 0 ≤ j then some (i / 2 ^ j.toNat) else none
def sortI (xs : List Int) : List Int := xs.mergeSort fun a b => decide (a ≤ b)
def sadd (xs : List Int) (k : Int) : Option (List Int) := if xs.length < 4000 then some (if xs.contains k = true then xs else xs ++ [k]) else none
end Mi
namespace Mi
end Mi
namespace Mi
end Mi
namespace Mi
def ext {α : Type} (xs ys : List α) : Option (List α) := if xs.length + ys.length ≤ big then some (xs ++ ys) else none
end Mi
namespace Mi
end Mi
namespace Mi
def tryX {ε α β : Type} (q : ε ⊕ α) (f : ε → Option β) (g : α → Option β) : Option β := match q with
 | .inl y => f y
 | .inr a => g a
theorem tryL {ε α β : Type} {y : ε} {f : ε → Option β} {g : α → Option β} {r : Option β} (h : tryX (.inl y) f g = r) : f y = r := h
theorem tryR {ε α β : Type} {a : α} {f : ε → Option β} {g : α → Option β} {r : Option β} (h : tryX (.inr a) f g = r) : g a = r := h
end Mi
namespace Mi
end Mi
namespace Mi
def asL {α β : Type} : α ⊕ β → Option α
 | .inl a => some a
 | .inr _ => none
def asR {α β : Type} : α ⊕ β → Option β
 | .inr b => some b
 | .inl _ => none
end Mi
namespace Mi
end Mi
namespace Mi
end Mi
namespace Mi
end Mi
namespace Mi
end Mi
namespace Mi
end Mi
namespace Mi
def unq {α : Type} : List α ⊕ List α → List α
 | .inl a => a
 | .inr a => a
end Mi
namespace Mi
def yld {β : Type} [DecidableEq β] (tot : List β) (y : Int) (d : β) : Option Int := if 0 ≤ y ∧ tot[y.toNat]? = some d then some (y + 1) else none
end Mi
namespace Mi
end Mi
namespace Mi
end Mi
namespace Mi
def m_ascending (d0 : ((List Int) ⊕ (List Int))) : Option (List Int) :=
 some (Mi.sortI (Mi.unq d0))
def m_is_zone_b1 (d1 : Int) (s11 : (List Int)) (x14 : Int) : Option (Bool ⊕ (List Int)) :=
 if ((decide (x14 < (0 : Int))) || ((decide (d1 ≤ x14)) || (s11.contains x14))) = true then
 (some (.inl false))
 else
 (sadd s11 x14).bind fun x21 =>
 some (.inr x21)
def m_is_zone (d0 : ((List Int) ⊕ (List Int))) (d1 : Int) : Option Bool :=
 (forR (m_is_zone_b1 d1) ([] : List Int) (Mi.unq d0)).bind fun e10 => orR e10 fun s11 =>
 some true
def m_Report_init (d1 : Int) (d2 : Int) (d3 : ((List Int) ⊕ (List Int))) (d4 : Int) (d5 : Bool) : Option (Int × Int × (List Int) × Int × Bool) :=
 if ((decide (d1 < (0 : Int))) || (decide ((3 : Int) < d1))) = true then
 (none)
 else
 if ((decide (d2 < (0 : Int))) || (decide ((24 : Int) < d2))) = true then
 (none)
 else
 (m_is_zone d3 (12 : Int)).bind fun q9 =>
 if (!q9) = true then
 (none)
 else
 if ((decide (d4 < (1 : Int))) || (decide ((99 : Int) < d4))) = true then
 (none)
 else
 (m_ascending d3).bind fun q17 =>
 some (d1, d2, q17, d4, d5)
def m_Report_init_x (d1 : Int) (d2 : Int) (d3 : ((List Int) ⊕ (List Int))) (d4 : Int) (d5 : Bool) : Option ((List Nat) ⊕ (Int × Int × (List Int) × Int × Bool)) :=
 if ((decide (d1 < (0 : Int))) || (decide ((3 : Int) < d1))) = true then
 (some (.inl ([115, 104, 105, 112] : List Nat)))
 else
 if ((decide (d2 < (0 : Int))) || (decide ((24 : Int) < d2))) = true then
 (some (.inl ([104, 111, 117, 114] : List Nat)))
 else
 (m_is_zone d3 (12 : Int)).bind fun q9 =>
 if (!q9) = true then
 (some (.inl ([122, 111, 110, 101] : List Nat)))
 else
 if ((decide (d4 < (1 : Int))) || (decide ((99 : Int) < d4))) = true then
 (some (.inl ([119, 101, 105, 103, 104, 116] : List Nat)))
 else
 (m_ascending d3).bind fun q17 =>
 some (.inr (d1, d2, q17, d4, d5))
def m_l_hand (d0 : (List Int)) (d1 : Int) : Option (List Int) :=
 pyLet ((0 : Int) : Int) fun cell3 =>
 (if (decide (d1 < (d0.length : Int))) = true then ((at_ d0 d1).bind fun x5 =>
 pyLet (x5 : Int) fun cell6 =>
 some cell6) else (some cell3) : Option Int).bind fun s4 =>
 (if (decide (s4 < (0 : Int))) = true then (pyLet (((1 : Int) - ((2 : Int) * s4)) : Int) fun cell8 =>
 some cell8) else (some s4) : Option Int).bind fun s7 =>
 pyLet ((0 : Int) : Int) fun rest9 =>
 (if (decide (((10 : Int) ^ 18) ≤ s7)) = true then (pyLet (s7 : Int) fun rest11 =>
 some rest11) else (some rest9) : Option Int).bind fun s10 =>
 some [s10, (((s7 + ((7919 : Int) * d1)) + (13 : Int)) % (2147483647 : Int)), (0 : Int)]
def m_l_pick (d0 : (List Int)) (d1 : Int) : Option (Int × (List Int)) :=
 if (decide (d1 < (1 : Int))) = true then
 (some ((0 : Int), d0))
 else
 (at_ d0 (0 : Int)).bind fun x3 =>
 if (decide ((0 : Int) < x3)) = true then
 ((at_ d0 (0 : Int)).bind fun x4 =>
 (mod x4 d1).bind fun x5 =>
 pyLet (x5 : Int) fun digit6 =>
 (at_ d0 (0 : Int)).bind fun x7 =>
 (fdiv x7 d1).bind fun x8 =>
 (setAt d0 (0 : Int) x8).bind fun x9 =>
 some (digit6, x9))
 else
 (at_ d0 (2 : Int)).bind fun x12 =>
 (setAt d0 (2 : Int) (x12 + (1 : Int))).bind fun x13 =>
 (at_ x13 (1 : Int)).bind fun x16 =>
 (at_ x13 (2 : Int)).bind fun x17 =>
 pyLet ((((x16 + ((7919 : Int) * x17)) + (13 : Int)) % (2147483647 : Int)) : Int) fun mixed18 =>
 (mul mixed18 (mixed18 + (48271 : Int))).bind fun x19 =>
 pyLet ((x19 % (2147483629 : Int)) : Int) fun mixed20 =>
 (mul mixed20 (mixed20 + (69621 : Int))).bind fun x21 =>
 (at_ x13 (2 : Int)).bind fun x22 =>
 pyLet (((x21 + ((31 : Int) * x22)) % (2147483647 : Int)) : Int) fun mixed23 =>
 (mod (mixed23 / (9 : Int)) d1).bind fun x24 =>
 some (x24, x13)
def m_l_int_0 (d0 : Int) : Option Bool :=
 some (true && (!false))
def m_l_int_1 (d0 : (Option Int)) : Option Bool :=
 some ((d0.isSome && true) && (!(d0.isSome && false)))
def m_l_places_b1 (s8 : Int) (s13 : (List Int)) (x22 : Int) : Option (List Int) :=
 (shr s8 x22).bind fun x31 =>
 if (decide ((x31 % (2 : Int)) = (1 : Int))) = true then ((app s13 x22).bind fun x32 =>
 some x32) else (some s13)
def m_l_places (d0 : Int) : Option (List Int) :=
 pyLet ((d0 % (6 : Int)) : Int) fun kind2 =>
 pyLet ((d0 / (6 : Int)) : Int) fun bits3 =>
 (if (decide (kind2 = (0 : Int))) = true then (pyLet ((0 : Int) : Int) fun bits5 =>
 some bits5) else (some bits3) : Option Int).bind fun s4 =>
 (if (decide (kind2 = (1 : Int))) = true then (pyLet ((4095 : Int) : Int) fun bits7 =>
 some bits7) else (some s4) : Option Int).bind fun s6 =>
 (if (decide (kind2 = (2 : Int))) = true then ((shl (1 : Int) (s6 % (12 : Int))).bind fun x9 =>
 pyLet (x9 : Int) fun bits10 =>
 some bits10) else (some s6) : Option Int).bind fun s8 =>
 (rngO 0 (12 : Int)).bind fun g11 =>
 (forN (m_l_places_b1 s8) ([] : (List Int)) g11).bind fun s13 =>
 some s13
def m_l_turned (d0 : Int) (d1 : (List Int)) : Option (List Int) :=
 (mod (d0 / (2 : Int)) (max (1 : Int) (d1.length : Int))).bind fun x3 =>
 pyLet (x3 : Int) fun spot4 =>
 (cat (Mi.cut d1 (some spot4) none) (Mi.cut d1 none (some spot4))).bind fun x18 =>
 (if (decide ((d0 % (2 : Int)) = (1 : Int))) = true then (some x18.reverse) else (some x18) : Option (List Int)).bind fun s27 =>
 some s27
def m_l_flag (d0 : Bool) (d1 : Bool) : Option Bool :=
 if d1 = true then
 (some (decide (d0 = true)))
 else
 some (decide (d0 = false))
def m_l_spoilt_zone (d0 : (List Int)) (d1 : (List Int)) : Option ((List Int) × (List Int)) :=
 (m_l_pick d0 (4 : Int)).bind fun q3 =>
 (at_ [(-(1 : Int)), (12 : Int), ((10 : Int) ^ 39), (0 : Int)] q3.1).bind fun x14 =>
 (if ((decide (q3.1 = (3 : Int))) && (decide ((d1.length : Int) = (0 : Int)))) = true then ((m_l_pick q3.2 (12 : Int)).bind fun q19 =>
 (app d1 q19.1).bind fun x22 =>
 some (q19.2, x22)) else (some (q3.2, d1)) : Option ((List Int) × (List Int))).bind fun s17 =>
 (if (decide (q3.1 = (3 : Int))) = true then ((m_l_pick s17.1 (s17.2.length : Int)).bind fun q26 =>
 (at_ s17.2 q26.1).bind fun x29 =>
 some (q26.2, x29)) else (some (s17.1, x14)) : Option ((List Int) × Int)).bind fun s25 =>
 (m_l_pick s25.1 ((s17.2.length : Int) + (1 : Int))).bind fun q32 =>
 (guardO (decide (0 ≤ q32.1 ∧ q32.1 < 2 ^ 63) && decide (s17.2.length < big))).bind fun z35 =>
 (some (s17.2.take (q32.1).toNat ++ [s25.2] ++ s17.2.drop (q32.1).toNat)).bind fun x36 =>
 some (x36, q32.2)
def m_l_spoilt (d0 : (List Int)) (d1 : (List (Int ⊕ (List Int)))) : Option ((List (Int ⊕ (List Int))) × (List Int)) :=
 (m_l_pick d0 (16 : Int)).bind fun q3 =>
 (if (decide ((q3.1 % (2 : Int)) = (1 : Int))) = true then ((m_l_pick q3.2 (4 : Int)).bind fun q15 =>
 (at_ [(-(1 : Int)), (4 : Int), ((10 : Int) ^ 39), (-((10 : Int) ^ 20))] q15.1).bind fun x18 =>
 (setAt d1 (0 : Int) (.inl x18)).bind fun x21 =>
 some (q15.2, x21)) else (some (q3.2, d1)) : Option ((List Int) × (List (Int ⊕ (List Int))))).bind fun s6 =>
 (if (decide (((q3.1 / (2 : Int)) % (2 : Int)) = (1 : Int))) = true then ((m_l_pick s6.1 (4 : Int)).bind fun q33 =>
 (at_ [(-(1 : Int)), (25 : Int), ((10 : Int) ^ 39), (-((10 : Int) ^ 20))] q33.1).bind fun x36 =>
 (setAt s6.2 (1 : Int) (.inl x36)).bind fun x39 =>
 some (q33.2, x39)) else (some (s6.1, s6.2)) : Option ((List Int) × (List (Int ⊕ (List Int))))).bind fun s24 =>
 (if (decide (((q3.1 / (4 : Int)) % (2 : Int)) = (1 : Int))) = true then ((at_ s24.2 (2 : Int)).bind fun x43 =>
 (asR x43).bind fun x47 =>
 (m_l_spoilt_zone s24.1 x47).bind fun q57 =>
 (setAt s24.2 (2 : Int) (.inr q57.1)).bind fun x62 =>
 some (q57.2, x62)) else (some (s24.1, s24.2)) : Option ((List Int) × (List (Int ⊕ (List Int))))).bind fun s42 =>
 (if (decide ((q3.1 / (8 : Int)) = (1 : Int))) = true then ((m_l_pick s42.1 (4 : Int)).bind fun q74 =>
 (at_ [(0 : Int), (100 : Int), ((10 : Int) ^ 39), (-((10 : Int) ^ 20))] q74.1).bind fun x77 =>
 (setAt s42.2 (3 : Int) (.inl x77)).bind fun x80 =>
 some (q74.2, x80)) else (some (s42.1, s42.2)) : Option ((List Int) × (List (Int ⊕ (List Int))))).bind fun s65 =>
 some (s65.2, s65.1)
def m_l_first_wrong_b1 (x34 : (List Int)) (s38 : (List Int)) (x48 : Int) : Option (List Int) :=
 ((at_ x34 x48).bind fun x58 => if (decide (x58 < (0 : Int))) = true then some true else (at_ x34 x48).bind fun x59 => if (decide ((11 : Int) < x59)) = true then some true else (at_ x34 x48).bind fun x60 => some ((Mi.cut x34 none (some x48)).contains x60) : Option Bool).bind fun b57 =>
 if b57 = true then ((app s38 x48).bind fun x69 =>
 some x69) else (some s38)
def m_l_first_wrong (d0 : (List (Int ⊕ (List Int)))) : Option (Option (List Nat)) :=
 (at_ d0 (0 : Int)).bind fun x2 =>
 (asL x2).bind fun x6 =>
 (if (decide (x6 < (0 : Int))) = true then some true else (at_ d0 (0 : Int)).bind fun x9 => (asL x9).bind fun x13 => some (decide ((3 : Int) < x13))).bind fun b15 =>
 if b15 = true then
 (some (some ([115, 104, 105, 112] : List Nat)))
 else
 (at_ d0 (1 : Int)).bind fun x16 =>
 (asL x16).bind fun x20 =>
 (if (decide (x20 < (0 : Int))) = true then some true else (at_ d0 (1 : Int)).bind fun x23 => (asL x23).bind fun x27 => some (decide ((24 : Int) < x27))).bind fun b29 =>
 if b29 = true then
 (some (some ([104, 111, 117, 114] : List Nat)))
 else
 (at_ d0 (2 : Int)).bind fun x30 =>
 (asR x30).bind fun x34 =>
 (rngO 0 (x34.length : Int)).bind fun g36 =>
 (forN (m_l_first_wrong_b1 x34) ([] : (List Int)) g36).bind fun s38 =>
 if (decide ((0 : Int) < (s38.length : Int))) = true then
 (some (some ([122, 111, 110, 101] : List Nat)))
 else
 (at_ d0 (3 : Int)).bind fun x72 =>
 (asL x72).bind fun x76 =>
 (if (decide (x76 < (1 : Int))) = true then some true else (at_ d0 (3 : Int)).bind fun x79 => (asL x79).bind fun x83 => some (decide ((99 : Int) < x83))).bind fun b85 =>
 if b85 = true then
 (some (some ([119, 101, 105, 103, 104, 116] : List Nat)))
 else
 some (none : (Option (List Nat)))
def m_l_handed_0 (d0 : (List Int)) (d1 : Int) : Option ((List Int) ⊕ (List Int)) :=
 if (decide (d1 = (1 : Int))) = true then
 (some (.inr d0))
 else
 some (.inl d0)
def m_l_handed_1 (d0 : (List Int)) (d1 : Int) : Option ((List Int) ⊕ (List Int)) :=
 if (decide (d1 = (1 : Int))) = true then
 (some (.inr d0))
 else
 some (.inl d0)
def m_l_refused (d0 : (List (Int ⊕ (List Int)))) (d1 : Int) (d2 : Bool) : Option (Option (List Nat)) :=
 (at_ d0 (0 : Int)).bind fun x4 =>
 (asL x4).bind fun x8 =>
 (at_ d0 (1 : Int)).bind fun x10 =>
 (asL x10).bind fun x14 =>
 (at_ d0 (2 : Int)).bind fun x16 =>
 (asR x16).bind fun x20 =>
 (m_l_handed_0 x20 d1).bind fun q22 =>
 (at_ d0 (3 : Int)).bind fun x31 =>
 (asL x31).bind fun x35 =>
 (m_Report_init_x x8 x14 q22 x35 d2).bind fun q47 => tryX q47 (fun y51 => (if (!true) = true then
 (some (some ([97, 110, 111, 116, 104, 101, 114] : List Nat)))
 else
 some (some y51))) fun q55 =>
 some (none : (Option (List Nat)))
def m_l_by_base (d0 : (List (Int ⊕ (List Int)))) (d1 : Int) : Option Bool :=
 (at_ d0 (0 : Int)).bind fun x3 =>
 (asL x3).bind fun x7 =>
 (at_ d0 (1 : Int)).bind fun x9 =>
 (asL x9).bind fun x13 =>
 (at_ d0 (2 : Int)).bind fun x15 =>
 (asR x15).bind fun x19 =>
 (m_l_handed_0 x19 d1).bind fun q21 =>
 (at_ d0 (3 : Int)).bind fun x30 =>
 (asL x30).bind fun x34 =>
 (m_Report_init_x x7 x13 q21 x34 true).bind fun q46 => tryX q46 (fun y50 => (some (true && true))) fun q54 =>
 some false
def m_l_keeps_b1  (s36 : (List Int)) (x46 : Int) : Option (List Int) :=
 (m_l_int_0 x46).bind fun q55 =>
 if (!q55) = true then ((app s36 x46).bind fun x58 =>
 some x58) else (some s36)
def m_l_keeps (d0 : (Int × Int × (List Int) × Int × Bool)) (d1 : (List (Int ⊕ (List Int)))) (d2 : Bool) : Option Bool :=
 ((m_l_int_0 d0.1).bind fun q9 => if (!q9) = true then some true else (m_l_int_0 d0.2.1).bind fun q16 => if (!q16) = true then some true else (m_l_int_0 d0.2.2.2.1).bind fun q23 => some (!q23) : Option Bool).bind fun b4 =>
 if b4 = true then
 (some false)
 else
 ( if (!true) = true then some true else (forN (m_l_keeps_b1) ([] : (List Int)) d0.2.2.1).bind fun s36 => some (decide ((0 : Int) < (s36.length : Int))) : Option Bool).bind fun b26 =>
 if b26 = true then
 (some false)
 else
 (at_ d1 (0 : Int)).bind fun x86 =>
 (asL x86).bind fun x90 =>
 (at_ d1 (1 : Int)).bind fun x92 =>
 (asL x92).bind fun x96 =>
 (at_ d1 (2 : Int)).bind fun x98 =>
 (asR x98).bind fun x102 =>
 if (!(decide ((d0.1, d0.2.1, d0.2.2.1) = (x90, x96, (Mi.sortI x102))))) = true then
 (some false)
 else
 ((at_ d1 (3 : Int)).bind fun x124 => (asL x124).bind fun x128 => if (decide (d0.2.2.2.1 = x128)) = true then (m_l_flag d0.2.2.2.2 d2).bind fun q134 => some q134 else some false : Option Bool).bind fun b119 =>
 some b119
def m_l_made (d0 : (List (Int ⊕ (List Int)))) (d1 : Int) (d2 : Bool) : Option Bool :=
 (at_ d0 (2 : Int)).bind fun x4 =>
 (asR x4).bind fun x8 =>
 (at_ d0 (0 : Int)).bind fun x17 =>
 (asL x17).bind fun x21 =>
 (at_ d0 (1 : Int)).bind fun x23 =>
 (asL x23).bind fun x27 =>
 (at_ d0 (3 : Int)).bind fun x29 =>
 (asL x29).bind fun x33 =>
 (m_Report_init x21 x27 (.inl x8) x33 d2).bind fun q45 =>
 ((at_ d0 (2 : Int)).bind fun x58 => (asR x58).bind fun x62 => if (!(decide (x8 = x62))) = true then some true else (at_ [q45] (0 : Int)).bind fun x64 => (m_l_keeps x64 d0 d2).bind fun q68 => some (!q68) : Option Bool).bind fun b57 =>
 if b57 = true then
 (some false)
 else
 (at_ d0 (0 : Int)).bind fun x71 =>
 (asL x71).bind fun x75 =>
 (at_ d0 (1 : Int)).bind fun x77 =>
 (asL x77).bind fun x81 =>
 (at_ d0 (2 : Int)).bind fun x83 =>
 (asR x83).bind fun x87 =>
 (at_ d0 (0 : Int)).bind fun x98 =>
 (asL x98).bind fun x102 =>
 (at_ d0 (1 : Int)).bind fun x104 =>
 (asL x104).bind fun x108 =>
 (m_l_handed_1 x8 d1).bind fun q110 =>
 (m_Report_init x102 x108 q110 (1 : Int) true).bind fun q135 =>
 (m_l_keeps q135 [(.inl x75), (.inl x81), (.inr x87), (.inl (1 : Int))] true).bind fun q139 =>
 if (!q139) = true then
 (some false)
 else
 (at_ d0 (0 : Int)).bind fun x142 =>
 (asL x142).bind fun x146 =>
 (at_ d0 (1 : Int)).bind fun x148 =>
 (asL x148).bind fun x152 =>
 (m_l_handed_1 x8 d1).bind fun q154 =>
 (m_Report_init x146 x152 q154 (1 : Int) d2).bind fun q179 =>
 (m_l_keeps q179 [(.inl x75), (.inl x81), (.inr x87), (.inl (1 : Int))] d2).bind fun q183 =>
 if (!q183) = true then
 (some false)
 else
 (at_ d0 (0 : Int)).bind fun x186 =>
 (asL x186).bind fun x190 =>
 (at_ d0 (1 : Int)).bind fun x192 =>
 (asL x192).bind fun x196 =>
 (m_l_handed_1 x8 d1).bind fun q198 =>
 (at_ d0 (3 : Int)).bind fun x210 =>
 (asL x210).bind fun x214 =>
 (m_Report_init x190 x196 q198 x214 true).bind fun q229 =>
 (m_l_keeps q229 d0 true).bind fun q233 =>
 if (!q233) = true then
 (some false)
 else
 (app x8 (5 : Int)).bind fun x236 =>
 (app x236 (5 : Int)).bind fun x239 =>
 (at_ [q45] (0 : Int)).bind fun x242 =>
 (m_l_keeps x242 d0 d2).bind fun q246 =>
 some q246
def m_law_b1 (says51 : Bool) (q52 : (Int × (List Int))) (s152 : Unit) (x155 : (List (Int ⊕ (List Int)))) : Option (Bool ⊕ Unit) :=
 (m_l_made x155 q52.1 says51).bind fun q165 =>
 if (!q165) = true then
 (some (.inl false))
 else
 some (.inr ())
def m_law (d0 : (List Int)) : Option Bool :=
 (m_l_hand d0 (0 : Int)).bind fun q2 =>
 (m_l_pick q2 (4 : Int)).bind fun q10 =>
 (m_l_pick q10.2 (25 : Int)).bind fun q13 =>
 (m_l_pick q13.2 (24 : Int)).bind fun q23 =>
 (m_l_pick q23.2 (24576 : Int)).bind fun q26 =>
 (m_l_places q26.1).bind fun q29 =>
 (m_l_turned q23.1 q29).bind fun q34 =>
 (app [(.inl q10.1), (.inl q13.1)] (.inr q34)).bind fun x39 =>
 (m_l_pick q26.2 (99 : Int)).bind fun q42 =>
 (app x39 (.inl ((1 : Int) + q42.1))).bind fun x45 =>
 (m_l_pick q42.2 (2 : Int)).bind fun q48 =>
 pyLet ((decide (q48.1 = (0 : Int))) : Bool) fun says51 =>
 (m_l_pick q48.2 (2 : Int)).bind fun q52 =>
 (m_l_hand d0 (1 : Int)).bind fun q55 =>
 (m_l_spoilt q55 x45).bind fun q74 =>
 (m_l_first_wrong q74.1).bind fun q84 =>
 ((m_l_refused q74.1 q52.1 says51).bind fun q90 => if (!(decide (q90 = q84))) = true then some true else ( if q84.isSome = true then (m_l_by_base q74.1 q52.1).bind fun q96 => some (!q96) else some false : Option Bool).bind fun b95 => some b95 : Option Bool).bind fun b89 =>
 if b89 = true then
 (some false)
 else
 (forR (m_law_b1 says51 q52) () [x45, [(.inl (0 : Int)), (.inl (0 : Int)), (.inr ([] : (List Int))), (.inl (1 : Int))], [(.inl (3 : Int)), (.inl (24 : Int)), (.inr [(11 : Int), (10 : Int), (9 : Int), (8 : Int), (7 : Int), (6 : Int), (5 : Int), (4 : Int), (3 : Int), (2 : Int), (1 : Int), (0 : Int)]), (.inl (99 : Int))]]).bind fun e151 => orR e151 fun s152 =>
 (m_l_refused q74.1 ((1 : Int) - q52.1) (!says51)).bind fun q168 =>
 some (decide (q168 = q84))
end Mi
namespace Mi
def Hd (h : List Int) : Prop := ∃ a b c : Int, h = [a, b, c] ∧ 0 ≤ a
theorem mod_ok {i j : Int} (h : 0 < j) : mod i j = some (i % j) := if_pos h
theorem fdiv_ok {i j : Int} (h : 0 < j) (h2 : j < 2 ^ 200) : fdiv i j = some (i / j) := if_pos ⟨h, h2⟩
theorem mul_okL {i j : Int} (h : -(2 ^ 64) < i) (h2 : i < 2 ^ 64) : mul i j = some (i * j) := if_pos (.inl ⟨h, h2⟩)
theorem app_ok {α : Type} {xs : List α} {x : α} (h : xs.length < big) : app xs x = some (xs ++ [x]) := if_pos h
theorem cat_ok {α : Type} {xs ys : List α} (h : xs.length + ys.length ≤ big) : cat xs ys = some (xs ++ ys) := if_pos h
theorem rngO_ok {lo hi : Int} (h1 : -(2 ^ 60) ≤ lo) (h2 : lo < 2 ^ 60) (h3 : -(2 ^ 60) ≤ hi) (h4 : hi < 2 ^ 60) : rngO lo hi = some (rng lo hi) := if_pos ⟨⟨h1, h2⟩, h3, h4⟩
theorem at0 {α : Type} (a : α) (l : List α) : at_ (a :: l) 0 = some a := by
 unfold at_ ixN
 rw [if_pos (by decide), if_pos (by rw [List.length_cons]; omega)]
 rfl
theorem at_nat {α : Type} {xs : List α} {j : Nat} {x : α} (h : xs[j]? = some x) : at_ xs (j : Int) = some x := by
 have hj : j < xs.length := (List.getElem?_eq_some_iff.mp h).1
 unfold at_ ixN
 rw [if_pos (by omega), if_pos (by omega), Int.toNat_natCast]
 exact h
theorem at_int {α : Type} {xs : List α} {i : Int} {x : α} (h0 : 0 ≤ i) (h : xs[i.toNat]? = some x) : at_ xs i = some x := by
 have e : i = (i.toNat : Int) := by omega
 rw [e]; exact at_nat h
theorem at_some {α : Type} {xs : List α} {i : Int} (h0 : 0 ≤ i) (h1 : i < xs.length) : ∃ x, at_ xs i = some x ∧ xs[i.toNat]? = some x := by
 have hj : i.toNat < xs.length := by omega
 exact ⟨xs[i.toNat], at_int h0 (List.getElem?_eq_getElem hj), List.getElem?_eq_getElem hj⟩
theorem hand_ok (s : List Int) (k : Int) (hk : 0 ≤ k) : ∃ h, m_l_hand s k = some h ∧ Hd h := by
 simp only [m_l_hand, pyLet]
 have hc : ∃ c, (if decide (k < (s.length : Int)) = true then (at_ s k).bind fun x3 => some x3 else some 0 : Option Int) = some c := by
   by_cases h : k < (s.length : Int)
   · rw [if_pos (decide_eq_true h)]
     obtain ⟨x, hx, _⟩ := at_some hk h
     rw [hx]
     exact ⟨x, rfl⟩
   · rw [if_neg (by simpa using h)]
     exact ⟨0, rfl⟩
 obtain ⟨c, hc⟩ := hc
 rw [hc]
 show ∃ h, (Option.bind (if decide (c < 0) = true then some (1 - 2 * c) else some c) _) = some h ∧ Hd h
 have hd : ∃ d, (if decide (c < 0) = true then some (1 - 2 * c) else some c) = some d ∧ 0 ≤ d := by
   by_cases h : c < 0
   · rw [if_pos (decide_eq_true h)]
     exact ⟨_, rfl, by omega⟩
   · rw [if_neg (by simpa using h)]
     exact ⟨c, rfl, by omega⟩
 obtain ⟨d, hd, h0⟩ := hd
 rw [hd]
 show ∃ h, (Option.bind (if decide (((10 : Int) ^ 18) ≤ d) = true then some d else some 0) _) = some h ∧ Hd h
 by_cases h : ((10 : Int) ^ 18) ≤ d
 · rw [if_pos (decide_eq_true h)]
   exact ⟨_, rfl, _, _, _, rfl, h0⟩
 · rw [if_neg (by simpa using h)]
   exact ⟨_, rfl, _, _, _, rfl, by omega⟩
theorem pick_ok {h : List Int} (hh : Hd h) {n : Int} (hn : 1 ≤ n) (hN : n < 2 ^ 200) : ∃ r h', m_l_pick h n = some (r, h') ∧ 0 ≤ r ∧ r < n ∧ Hd h' := by
 obtain ⟨a, b, c, rfl, ha⟩ := hh
 have i0 : ∀ x y z : Int, at_ [x, y, z] 0 = some x := fun _ _ _ => rfl
 have i1 : ∀ x y z : Int, at_ [x, y, z] 1 = some y := fun _ _ _ => rfl
 have i2 : ∀ x y z : Int, at_ [x, y, z] 2 = some z := fun _ _ _ => rfl
 have s0 : ∀ x y z u : Int, setAt [x, y, z] 0 u = some [u, y, z] := fun _ _ _ _ => rfl
 have s2 : ∀ x y z u : Int, setAt [x, y, z] 2 u = some [x, y, u] := fun _ _ _ _ => rfl
 unfold m_l_pick pyLet
 rw [if_neg (by simp; omega)]
 simp only [i0, i1, i2, s0, s2, Option.bind_some]
 by_cases h : 0 < a
 · rw [if_pos (decide_eq_true h), mod_ok (by omega)]
   simp only [Option.bind_some]
   rw [fdiv_ok (by omega) hN]
   simp only [Option.bind_some, s0]
   exact ⟨_, _, rfl, Int.emod_nonneg _ (by omega), Int.emod_lt_of_pos _ (by omega), _, _, _, rfl, Int.ediv_nonneg ha (by omega)⟩
 · rw [if_neg (by simpa using h)]
   have m1 := Int.emod_nonneg (b + 7919 * (c + 1) + 13) (show (2147483647 : Int) ≠ 0 by decide)
   have m2 := Int.emod_lt_of_pos (b + 7919 * (c + 1) + 13) (show (0 : Int) < 2147483647 by decide)
   rw [mul_okL (by omega) (by omega)]
   simp only [Option.bind_some]
   have m3 := Int.emod_nonneg ((b + 7919 * (c + 1) + 13) % 2147483647 * ((b + 7919 * (c + 1) + 13) % 2147483647 + 48271)) (show (2147483629 : Int) ≠ 0 by decide)
   have m4 := Int.emod_lt_of_pos ((b + 7919 * (c + 1) + 13) % 2147483647 * ((b + 7919 * (c + 1) + 13) % 2147483647 + 48271)) (show (0 : Int) < 2147483629 by decide)
   rw [mul_okL (by omega) (by omega)]
   simp only [Option.bind_some]
   rw [mod_ok (by omega)]
   exact ⟨_, _, rfl, Int.emod_nonneg _ (by omega), Int.emod_lt_of_pos _ (by omega), _, _, _, rfl, ha⟩
theorem rng_nil {lo hi : Int} (h : hi ≤ lo) : rng lo hi = [] := by
 unfold rng
 have e : (hi - lo).toNat = 0 := by omega
 rw [e]; rfl
theorem rng_cons {lo hi : Int} (h : lo < hi) : rng lo hi = lo :: rng (lo + 1) hi := by
 unfold rng
 have e : (hi - lo).toNat = (hi - (lo + 1)).toNat + 1 := by omega
 rw [e, List.range_succ_eq_map, List.map_cons, List.map_map]
 congr 1
 · omega
 · apply List.map_congr_left
   intro k _
   show lo + ((k + 1 : Nat) : Int) = lo + 1 + (k : Int)
   omega
theorem rng_length (lo hi : Int) : (rng lo hi).length = (hi - lo).toNat := by unfold rng; rw [List.length_map, List.length_range]
theorem mem_rng {lo hi x : Int} : x ∈ rng lo hi ↔ lo ≤ x ∧ x < hi := by
 unfold rng
 rw [List.mem_map]
 constructor
 · rintro ⟨k, hk, rfl⟩
   rw [List.mem_range] at hk
   omega
 · intro h
   exact ⟨(x - lo).toNat, List.mem_range.mpr (by omega), by omega⟩
theorem at_app {α : Type} (pre : List α) (x : α) (post : List α) : at_ (pre ++ x :: post) (pre.length : Int) = some x := at_nat (by
 rw [List.getElem?_append_right (Nat.le_refl _), Nat.sub_self]; rfl)
theorem forN_cons {α σ : Type} (f : σ → α → Option σ) (s : σ) (x : α) (xs : List α) : forN f s (x :: xs) = (f s x).bind fun s' => forN f s' xs := rfl
theorem forR_step {α σ ρ : Type} {f : σ → α → Option (ρ ⊕ σ)} {s s' : σ} {x : α} {xs : List α} (h : f s x = some (.inr s')) : forR f s (x :: xs) = forR f s' xs := by
 show (f s x).bind _ = _
 rw [h]; rfl
theorem forR_all {α ρ : Type} {f : Unit → α → Option (ρ ⊕ Unit)} : ∀ {xs : List α}, (∀ x ∈ xs, f () x = some (.inr ())) → forR f () xs = some (.inr ())
 | [], _ => rfl
 | x :: xs, h => by
   rw [forR_step (h x (List.mem_cons_self ..))]
   exact forR_all fun y hy => h y (List.mem_cons_of_mem _ hy)
theorem forN_flat {α β : Type} {f : List β → α → Option (List β)} (h : α → List β) (h1 : ∀ x, (h x).length ≤ 1) : ∀ {xs : List α} {acc : List β}, acc.length + xs.length ≤ big → (∀ acc x, x ∈ xs → acc.length < big → f acc x = some (acc ++ h x)) → forN f acc xs = some (acc ++ xs.flatMap h)
 | [], acc, _, _ => by rw [List.flatMap_nil, List.append_nil]; rfl
 | x :: xs, acc, hb, hf => by
   rw [List.length_cons] at hb
   rw [forN_cons, hf acc x (List.mem_cons_self ..) (by omega), Option.bind_some, forN_flat h h1 (by rw [List.length_append]; have := h1 x; omega) fun a y hy => hf a y (List.mem_cons_of_mem _ hy), List.flatMap_cons, List.append_assoc]
theorem guard_ok {c : Bool} (h : c = true) : guardO c = some () := if_pos h
theorem pairwise_flat {α : Type} {r : α → α → Prop} {h : α → List α} (hs : ∀ x, h x = [] ∨ h x = [x]) : ∀ {xs : List α}, xs.Pairwise r → (xs.flatMap h).Pairwise r ∧ ∀ y ∈ xs.flatMap h, y ∈ xs
 | [], _ => ⟨by rw [List.flatMap_nil]; exact .nil, fun y hy => by rw [List.flatMap_nil] at hy; exact hy⟩
 | x :: xs, p => by
   have pc := List.pairwise_cons.mp p
   obtain ⟨i1, i2⟩ := pairwise_flat hs pc.2
   rw [List.flatMap_cons]
   rcases hs x with e | e
   · rw [e, List.nil_append]
     exact ⟨i1, fun y hy => List.mem_cons_of_mem _ (i2 y hy)⟩
   · rw [e]
     refine ⟨List.pairwise_cons.mpr ⟨fun y hy => pc.1 y (i2 y hy), i1⟩, fun y hy => ?_⟩
     rcases List.mem_cons.mp hy with rfl | hy
     · exact List.mem_cons_self ..
     · exact List.mem_cons_of_mem _ (i2 y hy)
theorem rng_lt (lo hi : Int) : (rng lo hi).Pairwise (· < ·) := by
 unfold rng
 rw [List.pairwise_map]
 exact List.Pairwise.imp (fun h => by omega) List.pairwise_lt_range
theorem bd {α β : Type} {m : Option α} {f : α → Option β} {x : α} {r : Option β} (h : m = some x) (k : f x = r) : m.bind f = r := by rw [h]; exact k
theorem le_big {n : Nat} (h : n ≤ 100000) : n ≤ big := Nat.le_trans h (by decide)
theorem lt_big {n : Nat} (h : n ≤ 100000) : n < big := Nat.lt_of_le_of_lt h (by decide)
theorem ift {α : Type} {b : Bool} {x y r : Option α} (h : b = true) (k : x = r) : (if b = true then x else y) = r := by rw [if_pos h]; exact k
theorem iff' {α : Type} {b : Bool} {x y r : Option α} (h : b = false) (k : y = r) : (if b = true then x else y) = r := by rw [h, if_neg Bool.false_ne_true]; exact k
theorem contains_false {α : Type} [BEq α] [LawfulBEq α] {xs : List α} {x : α} (h : x ∉ xs) : xs.contains x = false := by
 cases e : xs.contains x with
 | false => rfl
 | true => exact absurd (List.contains_iff_mem.mp e) h
theorem nodup_mid {α : Type} {xs pre suf : List α} {x : α} (e : xs = pre ++ x :: suf) (h : xs.Nodup) : x ∉ pre := by
 intro hm
 rw [e] at h
 exact (List.pairwise_append.mp h).2.2 x hm x (List.mem_cons_self ..) rfl
theorem lt_nodup {xs : List Int} (h : xs.Pairwise (· < ·)) : xs.Nodup := List.Pairwise.imp (fun z e => by omega) h
theorem lt_len {xs : List Int} {n : Nat} (hp : xs.Pairwise (· < ·)) (hb : ∀ x ∈ xs, 0 ≤ x ∧ x < (n : Int)) : xs.length ≤ n := by
 have h2 : ∀ (n : Nat) (l : List Int) (lo : Int), l.Pairwise (· < ·) → (∀ x ∈ l, lo ≤ x ∧ x < lo + n) → l.length ≤ n := by
   intro n
   induction n with
   | zero =>
     intro l lo _ hb
     cases l with
     | nil => exact Nat.le_refl _
     | cons x l => have := hb x (List.mem_cons_self ..); omega
   | succ n ih =>
     intro l lo hp hb
     cases l with
     | nil => exact Nat.zero_le _
     | cons x l =>
       have hx := hb x (List.mem_cons_self ..)
       have pc := List.pairwise_cons.mp hp
       have := ih l (lo + 1) pc.2 (fun y hy => by
         have h1 := pc.1 y hy
         have h2 := hb y (List.mem_cons_of_mem _ hy)
         omega)
       rw [List.length_cons]; omega
 exact h2 n xs 0 hp (fun x hx => by have := hb x hx; omega)
theorem bdE {α β : Type} {m : Option α} {f : α → Option β} {x : α} {P : β → Prop} (h : m = some x) (k : ∃ r, f x = some r ∧ P r) : ∃ r, m.bind f = some r ∧ P r := by rw [h]; exact k
theorem bf {b : Bool} (h : ¬ b = true) : b = false := by cases b with
 | false => rfl
 | true => exact absurd rfl h
theorem bdP {α β γ : Type} {m : Option α} {f : α → Option (β × γ)} {x : α} {P : β → γ → Prop} (h : m = some x) (k : ∃ r h', f x = some (r, h') ∧ P r h') : ∃ r h', m.bind f = some (r, h') ∧ P r h' := by rw [h]; exact k
theorem ltE {α β : Type} {e : α} {f : α → Option β} {r : Option β} (k : f e = r) : pyLet e f = r := k
def Zn (z : List Int) : Prop := z.Pairwise (· < ·) ∧ ∀ x ∈ z, 0 ≤ x ∧ x < 12
theorem places_ok (c : Int) : ∃ z, m_l_places c = some z ∧ Zn z := by
 simp only [m_l_places, pyLet]
 have j1 : ∃ b : Int, (if decide (c % 6 = 0) = true then some (0 : Int) else some (c / 6)) = some b := by split <;> exact ⟨_, rfl⟩
 obtain ⟨b, e1⟩ := j1
 rw [e1]; simp only [Option.bind_some]
 have j2 : ∃ b2 : Int, (if decide (c % 6 = 1) = true then some (4095 : Int) else some b) = some b2 := by split <;> exact ⟨_, rfl⟩
 obtain ⟨b2, e2⟩ := j2
 rw [e2]; simp only [Option.bind_some]
 have m0 := Int.emod_nonneg b2 (show (12 : Int) ≠ 0 by decide)
 have m1 := Int.emod_lt_of_pos b2 (show (0 : Int) < 12 by decide)
 have j3 : ∃ b3 : Int, (if decide (c % 6 = 2) = true then (shl 1 (b2 % 12)).bind fun x8 => some x8 else some b2) = some b3 := by
   split
   · rw [show shl 1 (b2 % 12) = some (1 * 2 ^ (b2 % 12).toNat) from if_pos ⟨m0, by omega, by decide, by decide⟩]
     exact ⟨_, rfl⟩
   · exact ⟨_, rfl⟩
 obtain ⟨b3, e3⟩ := j3
 rw [e3]; simp only [Option.bind_some]
 rw [rngO_ok (by decide) (by decide) (by decide) (by decide)]; simp only [Option.bind_some]
 rw [forN_flat (h := fun x => if b3 / 2 ^ x.toNat % 2 = 1 then [x] else []) (fun x => by split <;> simp) (by rw [rng_length]; decide) (fun acc x hx hb => by
   have hx0 := (mem_rng.mp hx).1
   simp only [m_l_places_b1]
   rw [show shr b3 x = some (b3 / 2 ^ x.toNat) from if_pos hx0]
   simp only [Option.bind_some]
   by_cases h : b3 / 2 ^ x.toNat % 2 = 1
   · rw [if_pos (decide_eq_true h), app_ok hb, if_pos h]; rfl
   · rw [if_neg (by simpa using h), if_neg h, List.append_nil])]
 simp only [Option.bind_some]
 obtain ⟨p1, p2⟩ := pairwise_flat (r := (· < ·)) (h := fun x : Int => if b3 / 2 ^ x.toNat % 2 = 1 then [x] else []) (fun x => by by_cases h : b3 / 2 ^ x.toNat % 2 = 1 <;> simp [h]) (rng_lt 0 12)
 exact ⟨_, rfl, p1, fun x hx => mem_rng.mp (p2 x hx)⟩
def zok : List Int → List Int → Bool
 | _, [] => true
 | pre, x :: suf => !(decide (x < 0) || (decide (12 ≤ x) || pre.contains x)) && zok (pre ++ [x]) suf
theorem zok_true : ∀ (suf pre : List Int), (∀ x ∈ suf, 0 ≤ x ∧ x < 12) → (pre ++ suf).Nodup → zok pre suf = true
 | [], _, _, _ => rfl
 | x :: suf, pre, hb, hn => by
   have b := hb x (List.mem_cons_self ..)
   have hx : x ∉ pre := nodup_mid rfl hn
   unfold zok
   rw [decide_eq_false (by omega), decide_eq_false (by omega), contains_false hx, zok_true suf (pre ++ [x]) (fun y hy => hb y (List.mem_cons_of_mem _ hy)) (by rw [List.append_assoc]; exact hn)]
   rfl
theorem zone_for : ∀ (suf pre : List Int), pre.length + suf.length ≤ 1000 → forR (m_is_zone_b1 12) pre suf = some (if zok pre suf = true then .inr (pre ++ suf) else .inl false)
 | [], pre, _ => by rw [List.append_nil]; rfl
 | x :: suf, pre, hl => by
   rw [List.length_cons] at hl
   by_cases h : (decide (x < 0) || (decide (12 ≤ x) || pre.contains x)) = true
   · have e : m_is_zone_b1 12 pre x = some (.inl false) := if_pos h
     have z : zok pre (x :: suf) = false := by unfold zok; rw [h]; rfl
     rw [z]
     show (m_is_zone_b1 12 pre x).bind _ = _
     rw [e]; rfl
   · have h' := bf h
     have hx : pre.contains x = false := by
       rw [Bool.or_eq_false_iff, Bool.or_eq_false_iff] at h'
       exact h'.2.2
     have e : m_is_zone_b1 12 pre x = some (.inr (pre ++ [x])) := by
       unfold m_is_zone_b1
       refine iff' h' ?_
       refine bd (x := pre ++ [x]) ?_ rfl
       unfold sadd
       rw [if_pos (by omega), hx]; rfl
     rw [forR_step e, zone_for suf (pre ++ [x]) (by rw [List.length_append, List.length_singleton]; omega)]
     have z : zok pre (x :: suf) = zok (pre ++ [x]) suf := by
       rw [show zok pre (x :: suf) = (!(decide (x < 0) || (decide (12 ≤ x) || pre.contains x)) && zok (pre ++ [x]) suf) from rfl, h']; rfl
     rw [z, List.append_assoc]; rfl
theorem is_zone_ok (d : List Int ⊕ List Int) (h : (Mi.unq d).length ≤ 1000) : m_is_zone d 12 = some (zok [] (Mi.unq d)) := by
 unfold m_is_zone
 refine bd (zone_for (Mi.unq d) [] (by rw [List.length_nil]; omega)) ?_
 cases zok [] (Mi.unq d) <;> rfl
def wS : List Nat := [115, 104, 105, 112]
def wH : List Nat := [104, 111, 117, 114]
def wZ : List Nat := [122, 111, 110, 101]
def wW : List Nat := [119, 101, 105, 103, 104, 116]
def bc (c1 c2 c3 c4 : Bool) : Option (List Nat) := if c1 = true then some wS else if c2 = true then some wH else if c3 = true then some wZ else if c4 = true then some wW else none
def b1 (s : Int) : Bool := decide (s < (0 : Int)) || decide ((3 : Int) < s)
def b2 (h : Int) : Bool := decide (h < (0 : Int)) || decide ((24 : Int) < h)
def b4 (w : Int) : Bool := decide (w < (1 : Int)) || decide ((99 : Int) < w)
def bb (s h : Int) (z : List Int) (w : Int) : Option (List Nat) := bc (b1 s) (b2 h) (!(zok [] z)) (b4 w)
theorem init_x (s h : Int) (d : List Int ⊕ List Int) (w : Int) (i : Bool) (hl : (Mi.unq d).length ≤ 1000) : m_Report_init_x s h d w i = some (match bb s h (Mi.unq d) w with | some y => .inl y | none => .inr (s, h, sortI (Mi.unq d), w, i)) := by
 unfold m_Report_init_x bb
 rw [is_zone_ok d hl]
 show (if b1 s = true then _ else if b2 h = true then _ else if (!(zok [] (Mi.unq d))) = true then _ else if b4 w = true then _ else _) = _
 cases b1 s <;> cases b2 h <;> cases zok [] (Mi.unq d) <;> cases b4 w <;> rfl
theorem init_o {s h : Int} {d : List Int ⊕ List Int} {w : Int} {i : Bool} (hl : (Mi.unq d).length ≤ 1000) (hb : bb s h (Mi.unq d) w = none) : m_Report_init s h d w i = some (s, h, sortI (Mi.unq d), w, i) := by
 unfold bb at hb
 unfold m_Report_init
 rw [is_zone_ok d hl]
 show (if b1 s = true then _ else if b2 h = true then _ else if (!(zok [] (Mi.unq d))) = true then _ else if b4 w = true then _ else _) = _
 revert hb
 cases b1 s <;> cases b2 h <;> cases zok [] (Mi.unq d) <;> cases b4 w <;> intro hb <;> first | rfl | cases hb
abbrev Pt := List (Int ⊕ List Int)
def pt (s h : Int) (z : List Int) (w : Int) : Pt := [.inl s, .inl h, .inr z, .inl w]
theorem sh4 {α : Type} (a b c d : α) : at_ [a, b, c, d] 0 = some a ∧ at_ [a, b, c, d] 1 = some b ∧ at_ [a, b, c, d] 2 = some c ∧ at_ [a, b, c, d] 3 = some d := ⟨rfl, rfl, rfl, rfl⟩
theorem handed_ok (z : List Int) (f : Int) : ∃ d, m_l_handed_0 z f = some d ∧ Mi.unq d = z := by
 unfold m_l_handed_0
 by_cases h : f = 1
 · exact ⟨.inr z, by rw [if_pos (decide_eq_true h)], rfl⟩
 · exact ⟨.inl z, by rw [if_neg (by simpa using h)], rfl⟩
theorem handed1_ok (z : List Int) (f : Int) : ∃ d, m_l_handed_1 z f = some d ∧ Mi.unq d = z := handed_ok z f
theorem refused_ok (s h : Int) (z : List Int) (w : Int) (f : Int) (i : Bool) (hl : z.length ≤ 1000) : m_l_refused (pt s h z w) f i = some (bb s h z w) := by
 obtain ⟨d, e, u⟩ := handed_ok z f
 unfold m_l_refused pt
 obtain ⟨h0, h1, h2, h3⟩ := sh4 (.inl s : Int ⊕ List Int) (.inl h) (.inr z) (.inl w)
 refine bd h0 (bd rfl (bd h1 (bd rfl (bd h2 (bd rfl (bd e (bd h3 (bd rfl ?_))))))))
 refine bd (init_x s h d w i (by rw [u]; exact hl)) ?_
 rw [u]
 cases bb s h z w <;> rfl
theorem base_ok (s h : Int) (z : List Int) (w : Int) (f : Int) (hl : z.length ≤ 1000) : m_l_by_base (pt s h z w) f = some (bb s h z w).isSome := by
 obtain ⟨d, e, u⟩ := handed_ok z f
 unfold m_l_by_base pt
 obtain ⟨h0, h1, h2, h3⟩ := sh4 (.inl s : Int ⊕ List Int) (.inl h) (.inr z) (.inl w)
 refine bd h0 (bd rfl (bd h1 (bd rfl (bd h2 (bd rfl (bd e (bd h3 (bd rfl ?_))))))))
 refine bd (init_x s h d w true (by rw [u]; exact hl)) ?_
 rw [u]
 cases bb s h z w <;> rfl
theorem wrong_for (z : List Int) : ∀ (suf pre acc : List Int), z = pre ++ suf → acc.length + suf.length ≤ 1000 → ∃ e, forN (m_l_first_wrong_b1 z) acc (rng (pre.length : Int) (z.length : Int)) = some e ∧ acc.length ≤ e.length ∧ (zok pre suf = true → e = acc) ∧ (zok pre suf = false → acc.length < e.length)
 | [], pre, acc, hz, hl => by
   rw [List.append_nil] at hz
   subst hz
   rw [rng_nil (Int.le_refl _)]
   exact ⟨acc, rfl, Nat.le_refl _, fun _ => rfl, fun h => by cases h⟩
 | x :: suf, pre, acc, hz, hl => by
   rw [List.length_cons] at hl
   have hlen : z.length = pre.length + (suf.length + 1) := by rw [hz, List.length_append, List.length_cons]
   rw [rng_cons (by omega), forN_cons]
   have ha : at_ z (pre.length : Int) = some x := by rw [hz]; exact at_app pre x suf
   have hc : Mi.cut z none (some (pre.length : Int)) = pre := by
     show ((z.drop 0).take ((if ((pre.length : Int)) < 0 then ((pre.length : Int) + (z.length : Int)).toNat else min ((pre.length : Int)).toNat z.length) - 0)) = pre
     rw [if_neg (by omega), List.drop_zero, Nat.sub_zero, Int.toNat_natCast, Nat.min_eq_left (by omega), hz, List.take_left]
   have hb : (if decide (x < (0 : Int)) = true then some true else (at_ z (pre.length : Int)).bind fun x59 => if decide ((11 : Int) < x59) = true then some true else (at_ z (pre.length : Int)).bind fun x60 => some ((Mi.cut z none (some (pre.length : Int))).contains x60)) = some (decide (x < 0) || (decide (12 ≤ x) || pre.contains x)) := by
     rw [ha, hc]
     simp only [Option.bind_some]
     have q : decide ((11 : Int) < x) = decide (12 ≤ x) := by
       by_cases g : 12 ≤ x
       · rw [decide_eq_true g, decide_eq_true (by omega)]
       · rw [decide_eq_false g, decide_eq_false (by omega)]
     rw [q]
     cases decide (x < 0) <;> cases decide (12 ≤ x) <;> rfl
   have hp : ((pre.length : Int) + 1) = ((pre ++ [x]).length : Int) := by rw [List.length_append, List.length_singleton]; omega
   have hz2 : z = (pre ++ [x]) ++ suf := by rw [hz, List.append_assoc]; rfl
   by_cases h : (decide (x < 0) || (decide (12 ≤ x) || pre.contains x)) = true
   · have e1 : m_l_first_wrong_b1 z acc (pre.length : Int) = some (acc ++ [(pre.length : Int)]) := by
       unfold m_l_first_wrong_b1
       refine bd (bd ha hb) (ift h (bd (app_ok (lt_big (by omega))) rfl))
     obtain ⟨e, e2, l1, l2, l3⟩ := wrong_for z suf (pre ++ [x]) (acc ++ [(pre.length : Int)]) hz2 (by rw [List.length_append, List.length_singleton]; omega)
     rw [List.length_append, List.length_singleton] at l1
     refine ⟨e, by rw [e1, hp]; exact e2, by omega, fun t => ?_, fun _ => by omega⟩
     unfold zok at t
     rw [h] at t; cases t
   · have h' := bf h
     have e1 : m_l_first_wrong_b1 z acc (pre.length : Int) = some acc := by
       unfold m_l_first_wrong_b1
       exact bd (bd ha hb) (iff' h' rfl)
     obtain ⟨e, e2, l1, l2, l3⟩ := wrong_for z suf (pre ++ [x]) acc hz2 (by omega)
     have zz : zok pre (x :: suf) = zok (pre ++ [x]) suf := by
       rw [show zok pre (x :: suf) = (!(decide (x < 0) || (decide (12 ≤ x) || pre.contains x)) && zok (pre ++ [x]) suf) from rfl, h']; rfl
     rw [zz]
     exact ⟨e, by rw [e1, hp]; exact e2, l1, l2, l3⟩
theorem first_ok (s h : Int) (z : List Int) (w : Int) (hl : z.length ≤ 1000) : m_l_first_wrong (pt s h z w) = some (bb s h z w) := by
 unfold m_l_first_wrong pt
 obtain ⟨h0, h1, h2, h3⟩ := sh4 (.inl s : Int ⊕ List Int) (.inl h) (.inr z) (.inl w)
 obtain ⟨e, e1, _, l2, l3⟩ := wrong_for z z [] [] rfl (by rw [List.length_nil]; omega)
 have ez : decide ((0 : Int) < (e.length : Int)) = !(zok [] z) := by
   cases q : zok [] z with
   | true => rw [l2 q]; rfl
   | false => have := l3 q; rw [List.length_nil] at this; exact decide_eq_true (by omega)
 refine bd h0 (bd rfl ?_)
 refine bd (x := b1 s) (by unfold b1; rw [h0]; cases decide (s < (0 : Int)) <;> rfl) ?_
 unfold bb
 cases b1 s with
 | true => rfl
 | false =>
   refine iff' rfl (bd h1 (bd rfl ?_))
   refine bd (x := b2 h) (by unfold b2; rw [h1]; cases decide (h < (0 : Int)) <;> rfl) ?_
   cases b2 h with
   | true => rfl
   | false =>
     refine iff' rfl (bd h2 (bd rfl ?_))
     refine bd (rngO_ok (by omega) (by omega) (by omega) (by omega)) ?_
     refine bd e1 ?_
     rw [ez]
     cases zok [] z with
     | false => rfl
     | true =>
       refine iff' rfl (bd h3 (bd rfl ?_))
       refine bd (x := b4 w) (by unfold b4; rw [h3]; cases decide (w < (1 : Int)) <;> rfl) ?_
       cases b4 w <;> rfl
theorem flag_same (b : Bool) : m_l_flag b b = some true := by cases b <;> rfl
theorem ints_ok (xs : List Int) : forN m_l_keeps_b1 ([] : List Int) xs = some [] := by
 have : ∀ xs : List Int, forN m_l_keeps_b1 ([] : List Int) xs = some [] := by
   intro xs
   induction xs with
   | nil => rfl
   | cons x xs ih => rw [forN_cons]; exact ih
 exact this xs
theorem keeps_ok (s h : Int) (z : List Int) (w : Int) (i : Bool) : m_l_keeps (s, h, sortI z, w, i) (pt s h z w) i = some true := by
 unfold m_l_keeps pt
 obtain ⟨h0, h1, h2, h3⟩ := sh4 (.inl s : Int ⊕ List Int) (.inl h) (.inr z) (.inl w)
 refine bd (x := false) rfl (iff' rfl ?_)
 refine bd (x := false) (by rw [if_neg (by decide)]; refine bd (ints_ok _) rfl) (iff' rfl ?_)
 refine bd h0 (bd rfl (bd h1 (bd rfl (bd h2 (bd rfl ?_)))))
 refine iff' (by simp) ?_
 refine bd (x := true) ?_ rfl
 refine bd h3 (bd rfl (ift (decide_eq_true rfl) (bd (flag_same i) rfl)))
theorem made_ok {s h : Int} {z : List Int} {w : Int} (f : Int) (i : Bool) (hl : z.length ≤ 1000) (hb : bb s h z w = none) : m_l_made (pt s h z w) f i = some true := by
 obtain ⟨d, e, u⟩ := handed1_ok z f
 obtain ⟨h0, h1, h2, h3⟩ := sh4 (.inl s : Int ⊕ List Int) (.inl h) (.inr z) (.inl w)
 have hb1 : bb s h z 1 = none := by
   unfold bb bc at hb ⊢
   revert hb
   cases b1 s <;> cases b2 h <;> cases zok [] z <;> intro hb <;> first | rfl | cases hb
 have k1 : ∀ w' i', bb s h z w' = none → m_Report_init s h d w' i' = some (s, h, sortI z, w', i') := fun w' i' q => by
   have := init_o (s := s) (h := h) (d := d) (w := w') (i := i') (by rw [u]; exact hl) (by rw [u]; exact q)
   rw [u] at this; exact this
 have k2 : m_Report_init s h (.inl z) w i = some (s, h, sortI z, w, i) := init_o (d := .inl z) hl hb
 unfold m_l_made
 refine bd h2 (bd rfl (bd h0 (bd rfl (bd h1 (bd rfl (bd h3 (bd rfl (bd k2 ?_))))))))
 refine bd (x := false) ?_ (iff' rfl ?_)
 · refine bd h2 (bd rfl (iff' (by simp) (bd rfl ?_)))
   refine bd (keeps_ok s h z w i) rfl
 refine bd h0 (bd rfl (bd h1 (bd rfl (bd h2 (bd rfl (bd h0 (bd rfl (bd h1 (bd rfl (bd e (bd (k1 1 true hb1) ?_)))))))))))
 refine bd (keeps_ok s h z 1 true) (iff' rfl ?_)
 refine bd h0 (bd rfl (bd h1 (bd rfl (bd e (bd (k1 1 i hb1) ?_)))))
 refine bd (keeps_ok s h z 1 i) (iff' rfl ?_)
 refine bd h0 (bd rfl (bd h1 (bd rfl (bd e (bd h3 (bd rfl (bd (k1 w true hb) ?_)))))))
 refine bd (keeps_ok s h z w true) (iff' rfl ?_)
 refine bd (app_ok (lt_big (by omega))) (bd (app_ok (lt_big (by rw [List.length_append, List.length_singleton]; omega))) (bd rfl ?_))
 exact bd (keeps_ok s h z w i) rfl
theorem turned_ok (c : Int) {z : List Int} (hl : z.length ≤ 1000) : ∃ y, m_l_turned c z = some y ∧ y.Perm z := by
 unfold m_l_turned
 have p : 0 < max (1 : Int) (z.length : Int) := by omega
 have m0 := Int.emod_nonneg (c / 2) (show max (1 : Int) (z.length : Int) ≠ 0 by omega)
 have m1 := Int.emod_lt_of_pos (c / 2) p
 refine bdE (mod_ok p) ?_
 generalize c / 2 % max (1 : Int) (z.length : Int) = k at m0 m1
 have hk : k.toNat ≤ z.length := by omega
 have c1 : Mi.cut z (some k) none = z.drop k.toNat := by
   show ((z.drop (if k < 0 then (k + (z.length : Int)).toNat else min k.toNat z.length)).take (z.length - (if k < 0 then (k + (z.length : Int)).toNat else min k.toNat z.length))) = _
   rw [if_neg (by omega), Nat.min_eq_left hk, List.take_of_length_le (by rw [List.length_drop]; omega)]
 have c2 : Mi.cut z none (some k) = z.take k.toNat := by
   show ((z.drop 0).take ((if k < 0 then (k + (z.length : Int)).toNat else min k.toNat z.length) - 0)) = _
   rw [if_neg (by omega), Nat.min_eq_left hk, List.drop_zero, Nat.sub_zero]
 have hp : (z.drop k.toNat ++ z.take k.toNat).Perm z := by
   have := List.perm_append_comm (l₁ := z.drop k.toNat) (l₂ := z.take k.toNat)
   rw [List.take_append_drop] at this
   exact this
 refine bdE (x := z.drop k.toNat ++ z.take k.toNat) ?_ ?_
 · rw [c1, c2]; exact cat_ok (le_big (by have := hp.length_eq; rw [List.length_append] at this; omega))
 by_cases q : c % 2 = 1
 · exact ⟨_, by rw [if_pos (decide_eq_true q)]; rfl, (List.reverse_perm _).trans hp⟩
 · exact ⟨_, by rw [if_neg (by simpa using q)]; rfl, hp⟩
theorem pick4 {h : List Int} (hh : Hd h) (a b c d : Int) : ∃ r h' x, m_l_pick h 4 = some (r, h') ∧ at_ [a, b, c, d] r = some x ∧ Hd h' := by
 obtain ⟨r, h', e, r0, r1, hh'⟩ := pick_ok hh (n := 4) (by decide) (by decide)
 obtain ⟨x, ex, _⟩ := at_some (xs := [a, b, c, d]) r0 (by simpa using r1)
 exact ⟨r, h', x, e, ex, hh'⟩
theorem szone_ok {h z : List Int} (hh : Hd h) (hl : z.length ≤ 12) : ∃ y h', m_l_spoilt_zone h z = some (y, h') ∧ y.length ≤ 20 ∧ Hd h' := by
 unfold m_l_spoilt_zone
 obtain ⟨r, h1, e1, r0, r1, hh1⟩ := pick_ok hh (n := 4) (by decide) (by decide)
 obtain ⟨x, ex, _⟩ := at_some (xs := [(-(1 : Int)), (12 : Int), ((10 : Int) ^ 39), (0 : Int)]) r0 (by simpa using r1)
 refine bdP e1 (bdP ex ?_)
 have j1 : ∃ (h2 z2 : List Int), (if ((decide (r = (3 : Int))) && (decide ((z.length : Int) = (0 : Int)))) = true then ((m_l_pick h1 (12 : Int)).bind fun q19 => (app z q19.1).bind fun x22 => some (q19.2, x22)) else (some (h1, z)) : Option ((List Int) × (List Int))) = some (h2, z2) ∧ Hd h2 ∧ z2.length ≤ 13 ∧ (r = 3 → 0 < z2.length) := by
   by_cases q : ((decide (r = (3 : Int))) && (decide ((z.length : Int) = (0 : Int)))) = true
   · obtain ⟨a, h2, e2, _, _, hh2⟩ := pick_ok hh1 (n := 12) (by decide) (by decide)
     refine ⟨h2, z ++ [a], ift q (bd e2 (bd (app_ok (lt_big (by omega))) rfl)), hh2, by rw [List.length_append, List.length_singleton]; omega, fun _ => by rw [List.length_append, List.length_singleton]; omega⟩
   · refine ⟨h1, z, iff' (bf q) rfl, hh1, by omega, fun h3 => ?_⟩
     have q' := bf q
     rw [decide_eq_true h3, Bool.true_and, decide_eq_false_iff_not] at q'
     omega
 obtain ⟨h2, z2, e2, hh2, l2, l3⟩ := j1
 refine bdP e2 ?_
 have j2 : ∃ (h3 : List Int) (t : Int), (if (decide (r = (3 : Int))) = true then ((m_l_pick h2 (z2.length : Int)).bind fun q26 => (at_ z2 q26.1).bind fun x29 => some (q26.2, x29)) else (some (h2, x)) : Option ((List Int) × Int)) = some (h3, t) ∧ Hd h3 := by
   by_cases q : r = 3
   · have := l3 q
     obtain ⟨a, h3, e3, a0, a1, hh3⟩ := pick_ok hh2 (n := (z2.length : Int)) (by omega) (by omega)
     obtain ⟨y, ey, _⟩ := at_some (xs := z2) a0 a1
     exact ⟨h3, y, ift (decide_eq_true q) (bd e3 (bd ey rfl)), hh3⟩
   · exact ⟨h2, x, iff' (decide_eq_false q) rfl, hh2⟩
 obtain ⟨h3, t, e3, hh3⟩ := j2
 refine bdP e3 ?_
 obtain ⟨a, h4, e4, a0, a1, hh4⟩ := pick_ok hh3 (n := (z2.length : Int) + 1) (by omega) (by omega)
 refine bdP e4 ?_
 refine bdP (guard_ok (by rw [decide_eq_true (show 0 ≤ a ∧ a < 2 ^ 63 from ⟨a0, by omega⟩), decide_eq_true (lt_big (n := z2.length) (by omega))]; rfl)) ?_
 refine bdP rfl ⟨_, _, rfl, ?_, hh4⟩
 show (z2.take a.toNat ++ [t] ++ z2.drop a.toNat).length ≤ 20
 rw [List.length_append, List.length_append, List.length_singleton, List.length_take, List.length_drop]
 omega
theorem spoilt_ok {hd : List Int} (hh : Hd hd) (s h : Int) {z : List Int} (w : Int) (hl : z.length ≤ 12) : ∃ s' h' z' w' r, m_l_spoilt hd (pt s h z w) = some (pt s' h' z' w', r) ∧ z'.length ≤ 20 := by
 unfold m_l_spoilt
 obtain ⟨k, g1, e1, k0, k1, hh1⟩ := pick_ok hh (n := 16) (by decide) (by decide)
 have j1 : ∃ g2 s', (if (decide ((k % (2 : Int)) = (1 : Int))) = true then ((m_l_pick g1 (4 : Int)).bind fun q15 =>
     (at_ [(-(1 : Int)), (4 : Int), ((10 : Int) ^ 39), (-((10 : Int) ^ 20))] q15.1).bind fun x18 =>
     (setAt (pt s h z w) (0 : Int) (.inl x18)).bind fun x21 => some (q15.2, x21)) else (some (g1, pt s h z w)) : Option ((List Int) × Pt)) = some (g2, pt s' h z w) ∧ Hd g2 := by
   by_cases q : k % 2 = 1
   · obtain ⟨r, g2, x, e2, ex, hh2⟩ := pick4 hh1 (-(1 : Int)) 4 ((10 : Int) ^ 39) (-((10 : Int) ^ 20))
     exact ⟨g2, x, ift (decide_eq_true q) (bd e2 (bd ex (bd rfl rfl))), hh2⟩
   · exact ⟨g1, s, iff' (decide_eq_false q) rfl, hh1⟩
 obtain ⟨g2, s', e2, hh2⟩ := j1
 have j2 : ∃ g3 h', (if (decide (((k / (2 : Int)) % (2 : Int)) = (1 : Int))) = true then ((m_l_pick g2 (4 : Int)).bind fun q33 =>
     (at_ [(-(1 : Int)), (25 : Int), ((10 : Int) ^ 39), (-((10 : Int) ^ 20))] q33.1).bind fun x36 =>
     (setAt (pt s' h z w) (1 : Int) (.inl x36)).bind fun x39 => some (q33.2, x39)) else (some (g2, pt s' h z w)) : Option ((List Int) × Pt)) = some (g3, pt s' h' z w) ∧ Hd g3 := by
   by_cases q : k / 2 % 2 = 1
   · obtain ⟨r, g2, x, e2, ex, hh2⟩ := pick4 hh2 (-(1 : Int)) 25 ((10 : Int) ^ 39) (-((10 : Int) ^ 20))
     exact ⟨g2, x, ift (decide_eq_true q) (bd e2 (bd ex (bd rfl rfl))), hh2⟩
   · exact ⟨g2, h, iff' (decide_eq_false q) rfl, hh2⟩
 obtain ⟨g3, h', e3, hh3⟩ := j2
 have j3 : ∃ g4 z', (if (decide (((k / (4 : Int)) % (2 : Int)) = (1 : Int))) = true then ((at_ (pt s' h' z w) (2 : Int)).bind fun x43 =>
     (asR x43).bind fun x47 => (m_l_spoilt_zone g3 x47).bind fun q57 =>
     (setAt (pt s' h' z w) (2 : Int) (.inr q57.1)).bind fun x62 => some (q57.2, x62)) else (some (g3, pt s' h' z w)) : Option ((List Int) × Pt)) = some (g4, pt s' h' z' w) ∧ Hd g4 ∧ z'.length ≤ 20 := by
   by_cases q : k / 4 % 2 = 1
   · obtain ⟨y, g4, e4, l4, hh4⟩ := szone_ok hh3 hl
     exact ⟨g4, y, ift (decide_eq_true q) (bd rfl (bd rfl (bd e4 (bd rfl rfl)))), hh4, l4⟩
   · exact ⟨g3, z, iff' (decide_eq_false q) rfl, hh3, by omega⟩
 obtain ⟨g4, z', e4, hh4, l4⟩ := j3
 have j4 : ∃ g5 w', (if (decide ((k / (8 : Int)) = (1 : Int))) = true then ((m_l_pick g4 (4 : Int)).bind fun q74 =>
     (at_ [(0 : Int), (100 : Int), ((10 : Int) ^ 39), (-((10 : Int) ^ 20))] q74.1).bind fun x77 =>
     (setAt (pt s' h' z' w) (3 : Int) (.inl x77)).bind fun x80 => some (q74.2, x80)) else (some (g4, pt s' h' z' w)) : Option ((List Int) × Pt)) = some (g5, pt s' h' z' w') := by
   by_cases q : k / 8 = 1
   · obtain ⟨r, g5, x, e5, ex, _⟩ := pick4 hh4 (0 : Int) 100 ((10 : Int) ^ 39) (-((10 : Int) ^ 20))
     exact ⟨g5, x, ift (decide_eq_true q) (bd e5 (bd ex (bd rfl rfl)))⟩
   · exact ⟨g4, w, iff' (decide_eq_false q) rfl⟩
 obtain ⟨g5, w', e5⟩ := j4
 exact ⟨s', h', z', w', g5, bd e1 (bd e2 (bd e3 (bd e4 (bd e5 rfl)))), l4⟩
theorem law_true (s : List Int) (_hs : s.length ≤ 63) : m_law s = some true := by
 unfold m_law
 obtain ⟨g0, e0, hh0⟩ := hand_ok s 0 (by decide)
 refine bd e0 ?_
 obtain ⟨a, g1, e1, a0, a1, hh1⟩ := pick_ok hh0 (n := 4) (by decide) (by decide)
 obtain ⟨b, g2, e2, b0, b1', hh2⟩ := pick_ok hh1 (n := 25) (by decide) (by decide)
 obtain ⟨c, g3, e3, _, _, hh3⟩ := pick_ok hh2 (n := 24) (by decide) (by decide)
 obtain ⟨d, g4, e4, _, _, hh4⟩ := pick_ok hh3 (n := 24576) (by decide) (by decide)
 obtain ⟨z0, e5, zn1, zn2⟩ := places_ok d
 have zl : z0.length ≤ 12 := lt_len zn1 (fun x hx => zn2 x hx)
 obtain ⟨z, e6, zp⟩ := turned_ok c (z := z0) (by omega)
 have zl' : z.length ≤ 12 := by rw [zp.length_eq]; exact zl
 have zk : zok [] z = true := zok_true z [] (fun x hx => zn2 x (zp.mem_iff.mp hx)) (by rw [List.nil_append]; exact zp.nodup_iff.mpr (lt_nodup zn1))
 obtain ⟨w, g5, e7, w0, w1, hh5⟩ := pick_ok hh4 (n := 99) (by decide) (by decide)
 obtain ⟨y, g6, e8, _, _, hh6⟩ := pick_ok hh5 (n := 2) (by decide) (by decide)
 obtain ⟨f, g7, e9, _, _, hh7⟩ := pick_ok hh6 (n := 2) (by decide) (by decide)
 refine bd e1 (bd e2 (bd e3 (bd e4 (bd e5 (bd e6 (bd (x := [.inl a, .inl b, .inr z]) rfl (bd e7 (bd (x := pt a b z (1 + w)) rfl (bd e8 (ltE (bd e9 ?_)))))))))))
 obtain ⟨k0, e10, hk0⟩ := hand_ok s 1 (by decide)
 obtain ⟨s', h', z', w', r, e11, zl2⟩ := spoilt_ok hk0 a b (1 + w) zl'
 refine bd e10 (bd e11 (bd (first_ok s' h' z' w' (by omega)) ?_))
 refine bd (x := false) ?_ (iff' rfl ?_)
 · refine bd (refused_ok s' h' z' w' f _ (by omega)) ?_
   refine iff' (by simp) ?_
   refine bd (x := false) ?_ rfl
   cases q : bb s' h' z' w' with
   | none => rfl
   | some v =>
     refine ift rfl (bd (base_ok s' h' z' w' f (by omega)) ?_)
     rw [q]; rfl
 refine bd (x := .inr ()) (forR_all fun p hp => ?_) ?_
 · have hm : m_l_made p f (decide (y = 0)) = some true := by
     simp only [List.mem_cons, List.not_mem_nil, or_false] at hp
     rcases hp with rfl | rfl | rfl
     · refine made_ok (s := a) (h := b) (z := z) (w := 1 + w) f _ (by omega) ?_
       unfold bb b1 b2 b4
       rw [zk, decide_eq_false (by omega), decide_eq_false (by omega), decide_eq_false (by omega), decide_eq_false (by omega), decide_eq_false (by omega), decide_eq_false (by omega)]
       rfl
     · exact made_ok (s := 0) (h := 0) (z := []) (w := 1) f _ (by decide) (by decide)
     · exact made_ok (s := 3) (h := 24) (z := [11, 10, 9, 8, 7, 6, 5, 4, 3, 2, 1, 0]) (w := 99) f _ (by decide) (by decide)
   exact bd hm rfl
 show (m_l_refused _ _ _).bind _ = _
 refine bd (refused_ok s' h' z' w' _ _ (by omega)) ?_
 exact congrArg some (decide_eq_true rfl)
end Mi
namespace G
open PySem PySem.Spec PyProof.Rows L2
def lastF : List Str := ["joined", "fuel", "reach", "inside", "hops", "letters", "hours", "end", "keeps_clear", "fields"]
def done (fs : List (Str × V)) : Bool := fs.any fun p => lastF.any fun q => decide (q = p.1)
def Froz : HO → Prop
 | .tup _ => True
 | .ins _ _ fs => done fs = true
 | .own _ => True
 | .frz _ _ => True
 | _ => False
def NCf : HO → Prop
 | .own _ => False
 | .ext _ => False
 | .ins _ _ _ => False
 | .frz _ _ => False
 | _ => True
def NCo (H H' : Hp) (b : Addr) : HO → Prop
 | .own y => ∃ C fs, H' y = some (.ins C b fs)
 | .ins C dx _ => H dx = none ∨ ∃ fs', H b = some (.ins C dx fs')
 | .ext φ => ∀ (h : Heap) (ob : Obj), φ h → h.get? b = some ob → ∀ v, ob.data ≠ .cell v
 | .frz o u => NCf u ∨ ((∃ φ, u = .ext φ) ∧ ∀ v, o.data ≠ .cell v)
 | _ => True
structure Chg (M : List Addr) (H H' : Hp) : Prop where
 keep : ∀ b o, H b = some o → (b ∉ M ∨ Froz o) → H' b = some o
 dom : ∀ b, H' b = none → H b = none
 ins : ∀ a C dx fs, H a = some (.ins C dx fs) → ∃ fs', H' a = some (.ins C dx fs')
 new : ∀ b o, H' b = some o → H b = some o ∨ NCo H H' b o
theorem Chg.refl {M : List Addr} (H : Hp) : Chg M H H := ⟨fun _ _ h _ => h, fun _ h => h, fun _ _ _ fs h => ⟨fs, h⟩, fun _ _ h => .inl h⟩
theorem NCo.chg {H H1 H2 : Hp} {b : Addr} {o : HO} (n : NCo H H1 b o) (i : ∀ a C dx fs, H1 a = some (.ins C dx fs) → ∃ fs', H2 a = some (.ins C dx fs')) : NCo H H2 b o := by
 cases o with
 | own y => obtain ⟨C, fs, e⟩ := n; obtain ⟨fs', e'⟩ := i _ _ _ _ e; exact ⟨C, fs', e'⟩
 | _ => exact n
theorem new_trans {H H1 H2 : Hp} (ad : ∀ b, H1 b = none → H b = none) (ai : ∀ b o, H1 b = some o → H b = some o ∨ NCo H H1 b o) (bi : ∀ a C dx fs, H1 a = some (.ins C dx fs) → ∃ fs', H2 a = some (.ins C dx fs')) (bn : ∀ b o, H2 b = some o → H1 b = some o ∨ NCo H1 H2 b o) :
   ∀ b o, H2 b = some o → H b = some o ∨ NCo H H2 b o := fun b o h => by
 rcases bn b o h with e | n
 · exact (ai b o e).imp id fun n => n.chg bi
 · refine .inr ?_
   cases o with
   | ins C dx fs =>
     rcases n with n | ⟨fs', n⟩
     · exact .inl (ad _ n)
     · rcases ai _ _ n with e | m
       · exact .inr ⟨fs', e⟩
       · exact m
   | _ => exact n
theorem Chg.trans {M : List Addr} {H H1 H2 : Hp} (a : Chg M H H1) (b : Chg M H1 H2) : Chg M H H2 :=
 ⟨fun x o h d => b.keep x o (a.keep x o h d) d, fun x h => a.dom x (b.dom x h), fun x C dx fs h => by obtain ⟨fs', h'⟩ := a.ins x C dx fs h; exact b.ins x C dx fs' h', new_trans a.dom a.new b.ins b.new⟩
theorem Chg.mono {M N : List Addr} {H H' : Hp} (a : Chg M H H') (s : ∀ x ∈ M, x ∈ N) : Chg N H H' :=
 ⟨fun b o h d => a.keep b o h (d.imp (fun z y => z (s b y)) id), a.dom, a.ins, a.new⟩
theorem Chg.none {M : List Addr} {H H' : Hp} (a : Chg [] H H') : Chg M H H' := a.mono (fun x h => nomatch h)
theorem Chg.new' {M : List Addr} {H : Hp} {p : Addr} {o : HO} (np : H p = .none) (hn : NCo H (upd H p o) p o) : Chg M H (upd H p o) :=
 ⟨fun b u h _ => by rw [upd_ne (ne_of_none h np)]; exact h, fun b h => by
   by_cases e : b = p
   · subst e; exact np
   · rw [upd_ne e] at h; exact h, fun a C dx fs h => ⟨fs, by rw [upd_ne (ne_of_none h np)]; exact h⟩, fun b u h => by
   by_cases e : b = p
   · subst e; rw [upd_same] at h; cases h; exact .inr hn
   · rw [upd_ne e] at h; exact .inl h⟩
theorem Chg.lay {M : List Addr} {H : Hp} {p : Addr} {o : HO} (np : H p = .none) (hn : NCf o) : Chg M H (upd H p o) := Chg.new' np (by
 cases o <;> first | exact hn.elim | trivial)
theorem Chg.wr {H : Hp} {p : Addr} {o u : HO} (hp : H p = some u) (nf : ¬ Froz u) (hi : ∀ C dx fs, u = .ins C dx fs → ∃ fs', o = .ins C dx fs' := by intro _ _ _ z; cases z) (hn : NCo H (upd H p o) p o := by first | trivial | exact .inl trivial) : Chg [p] H (upd H p o) :=
 ⟨fun b w h d => by
   have e : b ≠ p := by
     intro e; subst e
     rw [hp] at h; cases h
     rcases d with d | d
     · exact d (List.mem_singleton.mpr rfl)
     · exact nf d
   rw [upd_ne e]; exact h, fun b h => by
   by_cases e : b = p
   · subst e; rw [upd_same] at h; cases h
   · rw [upd_ne e] at h; exact h, fun a C dx fs h => by
   by_cases e : a = p
   · subst e
     rw [hp] at h; cases h
     obtain ⟨fs', rfl⟩ := hi _ _ _ rfl
     exact ⟨fs', upd_same⟩
   · exact ⟨fs, by rw [upd_ne e]; exact h⟩, fun b w h => by
   by_cases e : b = p
   · subst e; rw [upd_same] at h; cases h; exact .inr hn
   · rw [upd_ne e] at h; exact .inl h⟩
theorem Chg.join {M N : List Addr} {H0 H H' : Hp} (a : Chg M H0 H) (b : Chg N H H') (fr : ∀ x ∈ N, x ∈ M ∨ H0 x = .none) : Chg M H0 H' :=
 ⟨fun x o h d => b.keep x o (a.keep x o h d) (by
   rcases d with d | d
   · refine .inl (fun z => ?_)
     rcases fr x z with y | y
     · exact d y
     · rw [y] at h; cases h
   · exact .inr d), fun x h => a.dom x (b.dom x h), fun x C dx fs h => by obtain ⟨fs', h'⟩ := a.ins x C dx fs h; exact b.ins x C dx fs' h', new_trans a.dom a.new b.ins b.new⟩
theorem Chg.free {M : List Addr} {H H' : Hp} (a : Chg M H H') {p : Addr} (np : H' p = .none) : H p = .none := a.dom p np
structure Ty (α : Type) where
 rep : PySem.W.Frag → Hp → List Addr → V → α → Prop
 keep : ∀ {K : PySem.W.Frag} {H H' : Hp} {F : List Addr} {v : V} {d : α}, rep K H F v d → (∀ b o, H b = some o → (b ∈ F ∨ Froz o) → H' b = some o) → rep K H' F v d
 dom : ∀ {K : PySem.W.Frag} {H : Hp} {F : List Addr} {v : V} {d : α}, rep K H F v d → ∀ b ∈ F, ∃ o, H b = some o ∧ ¬ Froz o
def Dj (F G : List Addr) : Prop := ∀ a ∈ F, a ∉ G
theorem Dj.symm {F G : List Addr} (d : Dj F G) : Dj G F := fun a h z => d a z h
theorem Dj.nil {F : List Addr} : Dj [] F := fun a h => nomatch h
theorem Dj.nilR {F : List Addr} : Dj F [] := fun a h z => nomatch z
section
variable {α β : Type} {τ : Ty α} {υ : Ty β} {K : PySem.W.Frag} {H H' : Hp} {F G M : List Addr} {v u : V} {d : α} {p : Addr}
theorem Ty.chg (r : τ.rep K H F v d) (c : Chg M H H') (dj : Dj F M) : τ.rep K H' F v d :=
 τ.keep r fun b o h z => c.keep b o h (z.imp (fun y => dj b y) id)
theorem Ty.ex (r : τ.rep K H F v d) (c : Chg [] H H') : τ.rep K H' F v d := Ty.chg r c Dj.nilR
theorem Ty.fz (r : τ.rep K H [] v d) (c : Chg M H H') : τ.rep K H' [] v d := Ty.chg r c Dj.nil
theorem Ty.nin (r : τ.rep K H F v d) (np : H p = none) : Dj F [p] := fun a h z => by
 rw [List.mem_singleton] at z; subst z
 obtain ⟨o, e, _⟩ := τ.dom r a h
 rw [np] at e; cases e
theorem Ty.fresh (r : τ.rep K H F v d) (np : ∀ a ∈ G, H a = none) : Dj F G := fun a h z => by
 obtain ⟨o, e, _⟩ := τ.dom r a h
 rw [np a z] at e; cases e
end
theorem one_fresh {H : Hp} {p : Addr} (np : H p = none) : ∀ a ∈ [p], H a = none := fun a h => by
 rw [List.mem_singleton] at h; subst h; exact np
def yInt : Ty Int := ⟨fun _ _ F v d => F = [] ∧ v = .int d, fun h _ => h, fun h b m => by rw [h.1] at m; cases m⟩
def yBool : Ty Bool := ⟨fun _ _ F v d => F = [] ∧ v = .bl d, fun h _ => h, fun h b m => by rw [h.1] at m; cases m⟩
def toS (l : List Nat) : Str := ⟨l.toArray⟩
def yStr : Ty (List Nat) := ⟨fun _ _ F v d => F = [] ∧ v = .str (toS d), fun h _ => h, fun h b m => by rw [h.1] at m; cases m⟩
theorem yInt_i {K : PySem.W.Frag} {H : Hp} {i : Int} : yInt.rep K H [] (.int i) i := ⟨rfl, rfl⟩
theorem yBool_i {K : PySem.W.Frag} {H : Hp} {i : Bool} : yBool.rep K H [] (.bl i) i := ⟨rfl, rfl⟩
theorem yStr_i {K : PySem.W.Frag} {H : Hp} {i : List Nat} : yStr.rep K H [] (.str (toS i)) i := ⟨rfl, rfl⟩
def yOpt {α : Type} (τ : Ty α) : Ty (Option α) where
 rep K H F v d := match d with
   | none => F = [] ∧ v = .non
   | some x => v ≠ .non ∧ τ.rep K H F v x
 keep {K H H' F v d} h k := by
   cases d with
   | none => exact h
   | some x => exact ⟨h.1, τ.keep h.2 k⟩
 dom {K H F v d} h b m := by
   cases d with
   | none => rw [h.1] at m; cases m
   | some x => exact τ.dom h.2 b m
def yLst {α : Type} (τ : Ty α) : Ty (List α) where
 rep K H F v xs := ∃ a vs, v = .ref a ∧ F = [a] ∧ H a = some (.lst vs) ∧ Paired (fun u x => τ.rep K H [] u x) vs xs
 keep {K H H' F v xs} h k := by
   obtain ⟨a, vs, e, f, g, r⟩ := h
   subst f
   exact ⟨a, vs, e, rfl, k a _ g (.inl (List.mem_singleton.mpr rfl)), Paired.mapP r fun u x q => τ.keep q fun b o hb z => k b o hb (z.elim (fun y => nomatch y) .inr)⟩
 dom {K H F v xs} h b m := by
   obtain ⟨a, vs, e, f, g, r⟩ := h
   subst f
   rw [List.mem_singleton] at m; subst m
   exact ⟨_, g, fun z => z⟩
theorem SqT.keeps {K : PySem.W.Frag} {H H' : Hp} {a : Addr} {vs : List V} (s : SqT K H a vs) (k : ∀ b o, H b = some o → Froz o → H' b = some o) : SqT K H' a vs := by
 rcases s with (s | ⟨o, s⟩) | s
 · exact .inl (.inl (k _ _ s trivial))
 · exact .inl (.inr ⟨o, k _ _ s trivial⟩)
 · exact .inr s
structure Tys (α : Type) where
 rep : PySem.W.Frag → Hp → List Addr → List V → α → Prop
 keep : ∀ {K : PySem.W.Frag} {H H' : Hp} {F : List Addr} {v : List V} {d : α}, rep K H F v d → (∀ b o, H b = some o → (b ∈ F ∨ Froz o) → H' b = some o) → rep K H' F v d
 dom : ∀ {K : PySem.W.Frag} {H : Hp} {F : List Addr} {v : List V} {d : α}, rep K H F v d → ∀ b ∈ F, ∃ o, H b = some o ∧ ¬ Froz o
def sOne {α : Type} (τ : Ty α) : Tys α where
 rep K H F vs x := ∃ v, vs = [v] ∧ τ.rep K H F v x
 keep h k := by obtain ⟨v, e, r⟩ := h; exact ⟨v, e, τ.keep r k⟩
 dom h b m := by obtain ⟨v, e, r⟩ := h; exact τ.dom r b m
def sCons {α β : Type} (τ : Ty α) (ts : Tys β) : Tys (α × β) where
 rep K H F vs x := ∃ v ws F1 F2, vs = v :: ws ∧ F = F1 ++ F2 ∧ τ.rep K H F1 v x.1 ∧ ts.rep K H F2 ws x.2
 keep {K H H' F v d} h k := by
   obtain ⟨v, ws, F1, F2, e, f, r, q⟩ := h
   subst f
   exact ⟨v, ws, F1, F2, e, rfl, τ.keep r fun b o hb z => k b o hb (z.imp (fun y => List.mem_append_left _ y) id), ts.keep q fun b o hb z => k b o hb (z.imp (fun y => List.mem_append_right _ y) id)⟩
 dom {K H F v d} h b m := by
   obtain ⟨v, ws, F1, F2, e, f, r, q⟩ := h
   subst f
   rcases List.mem_append.mp m with m | m
   · exact τ.dom r b m
   · exact ts.dom q b m
def yTup {α : Type} (ts : Tys α) : Ty α where
 rep K H F v d := ∃ a vs, v = .ref a ∧ SqT K H a vs ∧ ts.rep K H F vs d
 keep h k := by
   obtain ⟨a, vs, e, s, r⟩ := h
   exact ⟨a, vs, e, SqT.keeps s fun b o hb z => k b o hb (.inr z), ts.keep r k⟩
 dom h b m := by obtain ⟨a, vs, e, s, r⟩ := h; exact ts.dom r b m
def yTupL {α : Type} (τ : Ty α) : Ty (List α) where
 rep K H F v xs := ∃ a vs, v = .ref a ∧ F = [] ∧ SqT K H a vs ∧ Paired (fun u x => τ.rep K H [] u x) vs xs
 keep {K H H' F v xs} h k := by
   obtain ⟨a, vs, e, f, g, r⟩ := h
   exact ⟨a, vs, e, f, SqT.keeps g fun b o hb z => k b o hb (.inr z), Paired.mapP r fun u x q => τ.keep q fun b o hb z => k b o hb (z.elim (fun y => nomatch y) .inr)⟩
 dom {K H F v xs} h b m := by
   obtain ⟨a, vs, e, f, g, r⟩ := h
   rw [f] at m; cases m
def yScr : Ty (List Int) where
 rep K H F v xs := F = [] ∧ ∃ a, v = .ref a ∧ ∀ H', (∀ b o, H b = some o → Froz o → H' b = some o) → SqL K H' a (xs.map V.int)
 keep {K H H' F v xs} h k := by
   obtain ⟨f, a, e, g⟩ := h
   exact ⟨f, a, e, fun H2 k2 => g H2 fun b o hb z => k2 b o (k b o hb (.inr z)) z⟩
 dom {K H F v xs} h b m := by
   rw [h.1] at m; cases m
theorem yScr_of {K : PySem.W.Frag} {H : Hp} {a : Addr} {ns : List Int} (o : Only H) (s : SqL K H a (ns.map V.int)) : yScr.rep K H [] (.ref a) ns := by
 refine ⟨rfl, a, rfl, fun H' k => ?_⟩
 rcases s with (s | ⟨ob, s⟩) | s
 · rcases o a with z | ⟨_, _, z⟩
   · rw [z] at s; cases s
   · rw [z] at s; cases s
 · exact .inl (.inr ⟨ob, k _ _ s trivial⟩)
 · exact .inr s
end G
namespace G
open PySem PySem.Spec PyProof.Rows L2
theorem at_eq {α : Type} (xs : List α) (i : Int) : L2.atI xs i = Mi.at_ xs i := rfl
theorem line_big : Mi.big ≤ sizeLine := by rw [sizeLine_eq]; decide
section paired
variable {α β γ : Type} {R : α → β → Prop}
theorem pr_len {xs : List α} {ys : List β} (r : Paired R xs ys) : xs.length = ys.length := Paired.length r
theorem pr_get : ∀ {xs : List α} {ys : List β} {j : Nat} {y : β}, Paired R xs ys → ys[j]? = some y → ∃ x, xs[j]? = some x ∧ R x y
 | _, _, _, _, .nil, e => by simp at e
 | _, _, 0, _, .cons r _, e => by simp at e; subst e; exact ⟨_, rfl, r⟩
 | _, _, j + 1, y, .cons _ t, e => by
   obtain ⟨u, h1, h2⟩ := pr_get (j := j) (y := y) t (by simpa using e)
   exact ⟨u, by simpa using h1, h2⟩
theorem pr_set {x : α} {y : β} (r : R x y) : ∀ {xs : List α} {ys : List β} (i : Nat), Paired R xs ys → Paired R (xs.set i x) (ys.set i y)
 | _, _, _, .nil => .nil
 | _, _, 0, .cons _ t => .cons r t
 | _, _, i + 1, .cons q t => .cons q (pr_set r i t)
theorem pr_app : ∀ {xs zs : List α} {ys ws : List β}, Paired R xs ys → Paired R zs ws → Paired R (xs ++ zs) (ys ++ ws)
 | _, _, _, _, .nil, s => s
 | _, _, _, _, .cons r t, s => .cons r (pr_app t s)
theorem pr_take : ∀ {xs : List α} {ys : List β} (n : Nat), Paired R xs ys → Paired R (xs.take n) (ys.take n)
 | _, _, 0, _ => .nil
 | _, _, _ + 1, .nil => .nil
 | _, _, n + 1, .cons r t => .cons r (pr_take n t)
theorem pr_drop : ∀ {xs : List α} {ys : List β} (n : Nat), Paired R xs ys → Paired R (xs.drop n) (ys.drop n)
 | _, _, 0, r => r
 | _, _, _ + 1, .nil => .nil
 | _, _, n + 1, .cons _ t => pr_drop n t
theorem pr_at {xs : List α} {ys : List β} {i : Int} {y : β} (r : Paired R xs ys) (h : Mi.at_ ys i = some y) : ∃ x, L2.atI xs i = some x ∧ R x y := by
 rw [at_eq]
 unfold Mi.at_ at h ⊢
 rw [pr_len r]
 obtain ⟨j, e, h⟩ := Mi.bnd h
 obtain ⟨x, e2, q⟩ := pr_get r h
 exact ⟨x, by rw [e]; exact e2, q⟩
theorem pr_map (f : β → α) (h : ∀ b, R (f b) b) : ∀ ys : List β, Paired R (ys.map f) ys
 | [] => .nil
 | y :: ys => .cons (h y) (pr_map f h ys)
theorem pr_of_map (f : β → α) (h : ∀ a b, R a b → a = f b) : ∀ {xs : List α} {ys : List β}, Paired R xs ys → xs = ys.map f
 | _, _, .nil => rfl
 | _, _, .cons r t => by rw [h _ _ r, pr_of_map f h t]; rfl
end paired
theorem ints_of {K : PySem.W.Frag} {H : Hp} {vs : List V} {ns : List Int} (r : Paired (fun u x => yInt.rep K H [] u x) vs ns) : vs = ns.map V.int := pr_of_map V.int (fun _ _ q => q.2) r
theorem ints_mk {K : PySem.W.Frag} {H : Hp} (ns : List Int) : Paired (fun u x => yInt.rep K H [] u x) (ns.map V.int) ns := pr_map V.int (fun _ => ⟨rfl, rfl⟩) ns
section vals
variable {K : PySem.W.Frag} {σ : L2.St} {H : Hp} {F : List Addr} {ta tb te : TE} {v u x y : V} {i j : Int} {t : TT} {b c : Bool} {α β : Type} {τ : Ty α}
theorem val_I0 {g : Int → Int → V} (ha : Val ta σ H (.int i)) (hb : Val tb σ H (.int j)) : Val (tOp (rI0 g) ta tb) σ H (g i j) := val_op ha hb fun Q q => ⟨i, j, rfl, rfl, q⟩
theorem val_I {C : Int → Int → Prop} {g : Int → Int → V} (ha : Val ta σ H (.int i)) (hb : Val tb σ H (.int j)) (hc : C i j) : Val (tOp (rI C g) ta tb) σ H (g i j) := val_op ha hb fun Q q => ⟨i, j, rfl, rfl, hc, q⟩
theorem val_U {g : Int → V} (ha : Val ta σ H (.int i)) : Val (tUn (rU g) ta) σ H (g i) := fun Q q => ha _ ⟨i, rfl, q⟩
theorem dI {i j : Int} : decide (V.int i = V.int j) = decide (i = j) := by
 by_cases e : i = j
 · subst e; simp
 · rw [decide_eq_false e, decide_eq_false (fun q => e (V.int.inj q))]
theorem val_eqI (ha : Val ta σ H (.int i)) (hb : Val tb σ H (.int j)) : Val (tOp rEq ta tb) σ H (.bl (decide (i = j))) := val_op ha hb fun Q q => ⟨rfl, by rw [dI]; exact q⟩
theorem val_is {w : V} (h : Val te σ H v) (e : v = w) : Val te σ H w := e ▸ h
theorem mulC {i j r : Int} (h : Mi.mul i j = some r) : CMul i j ∧ i * j = r := by
 unfold Mi.mul at h
 split at h
 · exact ⟨by assumption, Option.some.inj h⟩
 · cases h
theorem modC {i j r : Int} (h : Mi.mod i j = some r) : 0 < j ∧ i % j = r := by
 unfold Mi.mod at h
 split at h
 · exact ⟨by assumption, Option.some.inj h⟩
 · cases h
theorem divC {i j r : Int} (h : Mi.fdiv i j = some r) : CDivW i j ∧ i / j = r := by
 unfold Mi.fdiv at h
 split at h
 · rename_i hc
   refine ⟨wide_div (b := 200) hc.1 ?_ (by decide) (by decide), Option.some.inj h⟩
   omega
 · cases h
theorem val_mul {r : Int} (ha : Val ta σ H (.int i)) (hb : Val tb σ H (.int j)) (h : Mi.mul i j = some r) : Val (tOp (rI CMul fun i j => .int (i * j)) ta tb) σ H (.int r) := val_is (val_I ha hb (mulC h).1) (by rw [(mulC h).2])
theorem val_mod {r : Int} (ha : Val ta σ H (.int i)) (hb : Val tb σ H (.int j)) (h : Mi.mod i j = some r) : Val (tOp (rI (fun _ j => 0 < j) fun i j => .int (i % j)) ta tb) σ H (.int r) := val_is (val_I ha hb (modC h).1) (by rw [(modC h).2])
theorem val_fdiv {r : Int} (ha : Val ta σ H (.int i)) (hb : Val tb σ H (.int j)) (h : Mi.fdiv i j = some r) : Val (tOp (rI CDivW fun i j => .int (i / j)) ta tb) σ H (.int r) := val_is (val_I ha hb (divC h).1) (by rw [(divC h).2])
theorem ans_t (h : Val te σ H (.bl b)) : Ans (tTest te) σ H b := fun Q q => h _ ⟨b, rfl, q⟩
def rInt1 : List V → Hp → VK → Prop := fun xs H Q => (∃ i, xs = [.int i] ∧ Q (.int i) H) ∨ ∃ k, xs = [.bl k] ∧ Q (.int (if k then 1 else 0)) H
theorem cl_int {X : Cx} : CallR X (.type "int") rInt1 := call_int1
theorem val_int (ha : Val ta σ H (.int i)) : Val (tCB rInt1 (tCons ta tNil)) σ H (.int i) := fun Q q => ha _ (.inl ⟨i, rfl, q⟩)
def rMax2 : List V → Hp → VK → Prop := fun xs H Q => ∃ i j, xs = [.int i, .int j] ∧ Q (.int (if j > i then j else i)) H
theorem cl_max2 {X : Cx} (hc : X.calm = true) : CallR X (.builtin "max") rMax2 := call_max2 hc
theorem val_max2 (ha : Val ta σ H (.int i)) (hb : Val tb σ H (.int j)) : Val (tCB rMax2 (tCons ta (tCons tb tNil))) σ H (.int (max i j)) := fun Q q => ha _ (hb _ ⟨i, j, rfl, by
 have e : (if j > i then j else i) = max i j := by split <;> omega
 rw [e]; exact q⟩)
def rLenQ (K : PySem.W.Frag) : List V → Hp → VK → Prop := fun xs H Q => ∃ p ys, xs = [.ref p] ∧ (SqL K H p ys ∨ SqT K H p ys) ∧ Q (.int ys.length) H
theorem cl_len {X : Cx} {K : PySem.W.Frag} (e : X.K = K := by rfl) : CallR X (.builtin "len") (rLenQ K) := by subst e; exact call_len_seq
theorem lst_sq {xs : List α} (r : (yLst τ).rep K H F v xs) : ∃ a vs, v = .ref a ∧ SqL K H a vs ∧ Paired (fun u x => τ.rep K H [] u x) vs xs := by
 obtain ⟨a, vs, e, f, g, q⟩ := r
 exact ⟨a, vs, e, .inl (.inl g), q⟩
theorem tupl_sq {xs : List α} (r : (yTupL τ).rep K H F v xs) : ∃ a vs, v = .ref a ∧ SqT K H a vs ∧ Paired (fun u x => τ.rep K H [] u x) vs xs := by
 obtain ⟨a, vs, e, f, g, q⟩ := r
 exact ⟨a, vs, e, g, q⟩
theorem scr_sq {xs : List Int} (r : yScr.rep K H F v xs) : ∃ a vs, v = .ref a ∧ SqL K H a vs ∧ Paired (fun u x => yInt.rep K H [] u x) vs xs := by
 obtain ⟨f, a, e, g⟩ := r
 exact ⟨a, _, e, g H fun _ _ h _ => h, ints_mk xs⟩
theorem val_lenL {xs : List α} (r : (yLst τ).rep K H F v xs) (ha : Val ta σ H v) : Val (tCB (rLenQ K) (tCons ta tNil)) σ H (.int (xs.length : Int)) := by
 obtain ⟨a, vs, e, s, q⟩ := lst_sq r
 subst e
 exact fun Q k => ha _ ⟨a, vs, rfl, .inl s, by rw [pr_len q]; exact k⟩
theorem val_lenS {xs : List Int} (r : yScr.rep K H F v xs) (ha : Val ta σ H v) : Val (tCB (rLenQ K) (tCons ta tNil)) σ H (.int (xs.length : Int)) := by
 obtain ⟨a, vs, e, s, q⟩ := scr_sq r
 subst e
 exact fun Q k => ha _ ⟨a, vs, rfl, .inl s, by rw [pr_len q]; exact k⟩
theorem ix_l {X : Cx} {K : PySem.W.Frag} (e : X.K = K := by rfl) : IxR X (rIxL K) := by subst e; exact ix_list
theorem itm_L {xs : List α} {x : α} (r : (yLst τ).rep K H F v xs) (h : Mi.at_ xs i = some x) :
   ∃ u, τ.rep K H [] u x ∧ ∀ {σ : L2.St} {ta tb : TE}, Val ta σ H v → Val tb σ H (.int i) → Val (tOp (rIxL K) ta tb) σ H u := by
 obtain ⟨a, vs, e, s, q⟩ := lst_sq r
 subst e
 obtain ⟨u, e, ru⟩ := pr_at q h
 exact ⟨u, ru, fun ha hb => val_op ha hb fun Q k => ⟨a, vs, i, u, rfl, rfl, s, e, k⟩⟩
theorem itm_S {xs : List Int} {x : Int} (r : yScr.rep K H F v xs) (h : Mi.at_ xs i = some x) {σ : L2.St} {ta tb : TE} (ha : Val ta σ H v) (hb : Val tb σ H (.int i)) : Val (tOp (rIxL K) ta tb) σ H (.int x) := by
 obtain ⟨a, vs, e, s, q⟩ := scr_sq r
 subst e
 obtain ⟨u, e, ru⟩ := pr_at q h
 obtain ⟨_, rfl⟩ := ru
 exact val_op ha hb fun Q k => ⟨a, vs, i, _, rfl, rfl, s, e, k⟩
theorem itm_LI {xs : List Int} {x : Int} (r : (yLst yInt).rep K H F v xs) (h : Mi.at_ xs i = some x) {σ : L2.St} {ta tb : TE} (ha : Val ta σ H v) (hb : Val tb σ H (.int i)) : Val (tOp (rIxL K) ta tb) σ H (.int x) := by
 obtain ⟨u, ⟨_, rfl⟩, k⟩ := itm_L r h
 exact k ha hb
theorem cl_isi {X : Cx} {K : PySem.W.Frag} (e : X.K = K := by rfl) : CallR X (.builtin "isinstance") (rIsi K) := by subst e; exact call_isi
theorem val_isi {n m : String} {b : Bool} (ha : Val ta σ H v) (ht : TyX K H v (.type n)) (h : kitB n m = some b) : Val (tCB (rIsi K) (tCons ta (tCons (tC (.ty m)) tNil))) σ H (.bl b) := fun Q q =>
 ha _ ⟨v, .ty m, .type n, .type m, b, rfl, .ty m, ht, kit_ty h, q⟩
theorem ty_int : TyX K H (.int i) (.type "int") := .base (.int i)
theorem ty_str {s : Str} : TyX K H (.str s) (.type "str") := .base (.str s)
theorem ty_non : TyX K H .non (.type "NoneType") := .base .non
theorem ty_sqt {a : Addr} {vs : List V} (s : SqT K H a vs) : TyX K H (.ref a) (.type "tuple") := by
 rcases s with (s | ⟨o, s⟩) | ⟨o, its, n, e, c, _⟩
 · exact .base (.tup s)
 · exact .fTuple s
 · exact .kTuple e c
theorem ty_tupl {xs : List α} (r : (yTupL τ).rep K H F v xs) : TyX K H v (.type "tuple") := by
 obtain ⟨a, vs, rfl, s, q⟩ := tupl_sq r
 exact ty_sqt s
end vals
section cps
variable {K : PySem.W.Frag} {σ σ' : L2.St} {H : Hp} {F : List Addr} {ta tb te : TE} {v u x y : V} {i j : Int} {t : TT} {b c : Bool} {α β : Type} {τ : Ty α} {Q : VK} {D : Ends} {t1 t2 : TS}
theorem c_val (h : Val te σ H v) (k : Q v H) : te σ H Q := h Q k
theorem c_ans {Q : Bool → Hp → Prop} (h : Ans t σ H b) (k : Q b H) : t σ H Q := h Q k
theorem c_if {A B : Prop} (h1 : b = true → A) (h2 : b = false → B) : if b = true then A else B := by
 cases b with
 | true => exact iteT (h1 rfl)
 | false => exact iteF (h2 rfl)
theorem s_if (h : Ans t σ H b) (h1 : b = true → t1 D σ H) (h2 : b = false → t2 D σ H) : tIfS t t1 t2 D σ H := h _ (c_if h1 h2)
theorem s_join {R : L2.St → Hp → Prop} (w : ∀ nx : L2.St → Hp → Prop, (∀ σ' H', R σ' H' → nx σ' H') → t1 { D with nx := nx } σ H) (k : ∀ σ' H', R σ' H' → t2 D σ' H') : tSeq t1 t2 D σ H := w _ k
theorem g_name {i : Nat} {Q : L2.St → Hp → Prop} (e : σ.set i (some v) = σ') (k : Q σ' H) : gName i v σ H Q := by show Q (σ.set i (some v)) H; rw [e]; exact k
theorem sz {n : Nat} (h : n ≤ Mi.big) : n ≤ sizeLine := Nat.le_trans h line_big
def VaA (t : TA) (σ : L2.St) (H : Hp) (vs : List V) : Prop := ∀ Q : List V → Hp → Prop, Q vs H → t σ H Q
theorem va_nil : VaA tNil σ H [] := fun Q q => q
theorem va_cons {tr : TA} {vs : List V} (h : Val ta σ H v) (r : VaA tr σ H vs) : VaA (tCons ta tr) σ H (v :: vs) := fun Q q => h _ (r _ q)
theorem m_app {xs ys : List α} {d : α} (r : (yLst τ).rep K H F v xs) (ru : τ.rep K H [] u d) (hm : Mi.app xs d = some ys) (k : ∀ H', Chg F H H' → (yLst τ).rep K H' F v ys → Q .non H') : rAppend v [u] H Q := by
 obtain ⟨p, vs, rfl, rfl, g, q⟩ := r
 unfold Mi.app at hm
 split at hm
 · rename_i hz
   cases hm
   have c : Chg [p] H (upd H p (.lst (vs ++ [u]))) := Chg.wr g (fun z => z)
   refine ⟨p, vs, u, rfl, rfl, g, Nat.lt_of_lt_of_le (by rw [pr_len q]; exact hz) line_big, k _ c ⟨p, _, rfl, rfl, upd_same, ?_⟩⟩
   exact pr_app (Paired.mapP q fun _ _ z => Ty.fz z c) (.cons (Ty.fz ru c) .nil)
 · cases hm
theorem m_set {xs ys : List α} {d : α} {Q : Hp → Prop} (r : (yLst τ).rep K H F v xs) (ru : τ.rep K H [] u d) (hm : Mi.setAt xs i d = some ys) (k : ∀ H', Chg F H H' → (yLst τ).rep K H' F v ys → Q H') : rSetL v (.int i) u H Q := by
 obtain ⟨p, vs, rfl, rfl, g, q⟩ := r
 unfold Mi.setAt at hm
 obtain ⟨j, e, hm⟩ := Mi.bnd hm
 cases hm
 have c : Chg [p] H (upd H p (.lst (vs.set j u))) := Chg.wr g (fun z => z)
 refine ⟨p, vs, i, j, rfl, rfl, g, by rw [pr_len q]; exact e, k _ c ⟨p, _, rfl, rfl, upd_same, ?_⟩⟩
 exact pr_set (Ty.fz ru c) j (Paired.mapP q fun _ _ z => Ty.fz z c)
end cps
end G
namespace G
open PySem PySem.Spec PyProof.Rows L2
structure Bi (mg : Str → Option Value) : Prop where
 len : mg "len" = none
 range : mg "range" = none
 int : mg "int" = none
 bool : mg "bool" = none
 isinstance : mg "isinstance" = none
 max : mg "max" = none
 min : mg "min" = none
 list : mg "list" = none
 tuple : mg "tuple" = none
 sorted : mg "sorted" = none
 set : mg "set" = none
 enumerate : mg "enumerate" = none
 zip : mg "zip" = none
 reversed : mg "reversed" = none
 sum : mg "sum" = none
 any : mg "any" = none
 all : mg "all" = none
 str : mg "str" = none
structure Dfn (K : PySem.W.Frag) (mg : Str → Option Value) (x : Str) (st : Stmt) : Prop where
 ex : ∃ f fd, Fun K x x st f fd ∧ mg x = some (.ref f)
structure Cal (P : Program) (w : World) (K : PySem.W.Frag) (mg : Str → Option Value) (x : Str) (ps : List Str) (k : Nat) (sp : Sp) : Prop where
 ex : ∃ f fd, mg x = some (.ref f) ∧ PySem.W.keepIn K (.ref f) = true ∧ (∀ (s : Shared) (us : List Value), us.length = ps.length → BindsTo s fd ⟨us, []⟩ (ps.zip us)) ∧ ∀ base : Heap, FnOk P w K mg base CX0 k f fd ps sp
theorem pe_cc {X : Cx} {x : Str} {ps : List Str} {j k : Nat} {sp : Sp} {p pos : Pos} {e : Expr} {es : List Expr} {t : TA} (C : Cal X.prog X.w X.K X.mg x ps j sp) (hr : Room k X.A) (ha : PA X (e :: es) t) (hj : j ≤ k := by decide) (hg : Gl X x := by rfl)
   (hd : (x == ("__debug__" : Str)) = false := by decide) (he : starEach (e :: es) X.env = (false, eval e X.env) :: starEach es X.env := by rfl)
   (hpl : (backTo pos (starEach es X.env)).any (·.1) = false := by rfl) :
   PE X (.Call (.Name x p) (e :: es) [] pos) (tCall sp [] E0 t) := by
 obtain ⟨f, fd, g, kp, b, F⟩ := C.ex
 exact pe_call (F X.base) (hr.mono hj) hg g kp (fun s us _ hl => by rw [List.append_nil] at hl ⊢; exact b s us hl) .nil pass0 ha hd he hpl
theorem bindsF {K : PySem.W.Frag} {x qual : Str} {st : Stmt} {f : Addr} {fd : FuncData} {ps : List Str} (F : Fun K x qual st f fd)
   (h : ∀ (kV doc pm : Value) (an : Option Addr) (cdv ct : Value) (us : List Value), us.length = ps.length → bindArgs (PySem.W.fnOf x qual (defArgs st) (defBody st) (defScope st) .none kV doc pm an cdv ct) ⟨us, []⟩ = pure (ps.zip us)) (s : Shared) (us : List Value) (hl : us.length = ps.length) : BindsTo s fd ⟨us, []⟩ (ps.zip us) := by
 obtain ⟨oc, od, kV, doc, pm, an, cdv, ct, osl, rfl, lk, hcd⟩ := F.ex
 exact .of_eq (h kV doc pm an cdv ct us hl)
end G
namespace G
open PySem PySem.Spec PyProof.Rows L2
section
variable {K : PySem.W.Frag} {σ σ' : L2.St} {H : Hp} {F : List Addr} {ta tb te : TE} {v u x y : V} {i j : Int} {t tu : TT} {b c a : Bool} {α β : Type} {τ : Ty α} {Q : VK} {D : Ends} {t1 t2 : TS}
theorem val_add (ha : Val ta σ H (.int i)) (hb : Val tb σ H (.int j)) : Val (tOp (rI0 fun i j => .int (i + j)) ta tb) σ H (.int (i + j)) := val_I0 ha hb
theorem val_sub (ha : Val ta σ H (.int i)) (hb : Val tb σ H (.int j)) : Val (tOp (rI0 fun i j => .int (i - j)) ta tb) σ H (.int (i - j)) := val_I0 ha hb
theorem val_lt (ha : Val ta σ H (.int i)) (hb : Val tb σ H (.int j)) : Val (tOp (rI0 fun i j => .bl (decide (i < j))) ta tb) σ H (.bl (decide (i < j))) := val_I0 (g := fun i j => .bl (decide (i < j))) ha hb
theorem val_gt (ha : Val ta σ H (.int i)) (hb : Val tb σ H (.int j)) : Val (tOp (rI0 fun i j => .bl (decide (j < i))) ta tb) σ H (.bl (decide (j < i))) := val_I0 (g := fun i j => .bl (decide (j < i))) ha hb
theorem val_ge (ha : Val ta σ H (.int i)) (hb : Val tb σ H (.int j)) : Val (tOp (rI0 fun i j => .bl (decide (j ≤ i))) ta tb) σ H (.bl (decide (j ≤ i))) := val_I0 (g := fun i j => .bl (decide (j ≤ i))) ha hb
theorem val_neg (ha : Val ta σ H (.int i)) : Val (tUn (rU fun i => .int (-i)) ta) σ H (.int (-i)) := val_U (g := fun i => .int (-i)) ha
theorem val_mulL (ha : Val ta σ H (.int i)) (hb : Val tb σ H (.int j)) (h : -(2 ^ 64) < i ∧ i < 2 ^ 64) : Val (tOp (rI CMul fun i j => .int (i * j)) ta tb) σ H (.int (i * j)) := val_I (g := fun i j => .int (i * j)) ha hb (.inl h)
theorem val_modc (ha : Val ta σ H (.int i)) (hb : Val tb σ H (.int j)) (h : 0 < j) : Val (tOp (rI (fun _ j => 0 < j) fun i j => .int (i % j)) ta tb) σ H (.int (i % j)) := val_I (g := fun i j => .int (i % j)) ha hb h
theorem val_divc (ha : Val ta σ H (.int i)) (hb : Val tb σ H (.int j)) (h : CDiv i j) : Val (tOp (rI CDiv fun i j => .int (i / j)) ta tb) σ H (.int (i / j)) := val_I (g := fun i j => .int (i / j)) ha hb h
theorem val_pow {n : Nat} (ha : Val ta σ H (.int i)) (hb : Val tb σ H (.int j)) (e : j = (n : Int)) (hn : n ≤ 1000000) (h : i.natAbs < 2 ^ 64) : Val (tOp (rI CPow fun i j => .int (i ^ j.toNat)) ta tb) σ H (.int (i ^ n)) := by
 subst e
 exact val_I (g := fun i j => .int (i ^ j.toNat)) ha hb ⟨by omega, by omega, h⟩
theorem ans_B (h : Val te σ H (.bl b)) : Ans (tB te) σ H b := ans_val h
theorem ans_N (h : Ans t σ H b) : Ans (tNot t) σ H (!b) := ans_not h
theorem ans_andB (h1 : Ans t σ H a) (h2 : a = true → Ans tu σ H b) : Ans (tAnd t tu) σ H (a && b) := by
 cases a with
 | true => exact ans_and h1 (h2 rfl)
 | false => exact ans_and0 h1
theorem ans_orB (h1 : Ans t σ H a) (h2 : a = false → Ans tu σ H b) : Ans (tOr t tu) σ H (a || b) := by
 cases a with
 | true => exact ans_or1 h1
 | false => exact ans_or h1 (h2 rfl)
theorem ans_orO {m : Option Bool} (h1 : Ans t σ H a) (hc : (if a = true then some true else m) = some c) (h2 : m = some c → Ans tu σ H c) : Ans (tOr t tu) σ H c := by
 cases a with
 | true => cases hc; exact ans_or1 h1
 | false => exact ans_or h1 (h2 hc)
theorem val_notV (h : Val ta σ H (.bl a)) : Val (tNotV ta) σ H (.bl (!a)) := fun Q q => h _ ⟨a, rfl, q⟩
theorem val_andV (h1 : Val ta σ H (.bl a)) (h2 : a = true → Val tb σ H (.bl b)) : Val (tAndV ta tb) σ H (.bl (a && b)) := fun Q q => h1 _ ⟨a, rfl, by
 cases a with
 | true => exact iteT (h2 rfl Q q)
 | false => exact iteF q⟩
theorem w_op {r : R2} (h : ta σ H fun x H1 => tb σ H1 fun y H2 => r x y H2 Q) : tOp r ta tb σ H Q := h
theorem w_cb {r : List V → Hp → VK → Prop} {ts : TA} (h : ts σ H fun vs H1 => r vs H1 Q) : tCB r ts σ H Q := h
theorem w_call {sp : Sp} {dvs : List V} {E : XK} {ts : TA} (h : ts σ H fun vs H1 => sp (vs ++ dvs) H1 Q E) : tCall sp dvs E ts σ H Q := h
theorem w_cons {tr : TA} {Q : List V → Hp → Prop} (h : ta σ H fun x H1 => tr σ H1 fun xs H2 => Q (x :: xs) H2) : tCons ta tr σ H Q := h
theorem w_nil {Q : List V → Hp → Prop} (h : Q [] H) : tNil σ H Q := h
theorem w_args {ts : TA} {vs : List V} {Q : List V → Hp → Prop} (h : VaA ts σ H vs) (k : Q vs H) : ts σ H Q := h Q k
def LstG (xs : List V) (H : Hp) (Q : VK) : Prop := xs.length ≤ sizeLine ∧ ∀ p, H p = none → Q (.ref p) (upd H p (.lst xs))
def TupG (xs : List V) (H : Hp) (Q : VK) : Prop := xs.length ≤ sizeLine ∧ ∀ p, H p = none → Q (.ref p) (upd H p (.tup xs))
theorem w_lst {ts : TA} (h : ts σ H fun xs H1 => LstG xs H1 Q) : L2.tLst ts σ H Q := h
theorem w_tup {ts : TA} (h : ts σ H fun xs H1 => TupG xs H1 Q) : L2.tTup ts σ H Q := h
theorem w_test {Q : Bool → Hp → Prop} (h : te σ H fun x H' => ∃ k, x = .bl k ∧ Q k H') : tTest te σ H Q := h
theorem w_B {Q : Bool → Hp → Prop} (h : te σ H fun x H' => ∃ k, x = .bl k ∧ Q k H') : tB te σ H Q := h
theorem w_not {Q : Bool → Hp → Prop} (h : t σ H fun c H1 => Q (!c) H1) : tNot t σ H Q := h
theorem w_and {Q : Bool → Hp → Prop} (h : t σ H fun c H1 => if c = true then tu σ H1 Q else Q false H1) : tAnd t tu σ H Q := h
theorem w_or {Q : Bool → Hp → Prop} (h : t σ H fun c H1 => if c = true then Q true H1 else tu σ H1 Q) : tOr t tu σ H Q := h
theorem w_andV (h : ta σ H fun x H1 => ∃ c, x = .bl c ∧ if c = true then tb σ H1 Q else Q (.bl false) H1) : tAndV ta tb σ H Q := h
theorem w_I0 {g : Int → Int → V} (k : Q (g i j) H) : rI0 g (.int i) (.int j) H Q := ⟨i, j, rfl, rfl, k⟩
theorem w_eqI (k : Q (.bl (decide (i = j))) H) : rEq (.int i) (.int j) H Q := ⟨rfl, by rw [dI]; exact k⟩
theorem w_lenL {xs : List α} (r : (yLst τ).rep K H F v xs) (k : Q (.int (xs.length : Int)) H) : rLenQ K [v] H Q := by
 obtain ⟨a, vs, e, s, q⟩ := lst_sq r
 subst e
 exact ⟨a, vs, rfl, .inl s, by rw [pr_len q]; exact k⟩
theorem w_ixL {xs : List α} {x : α} (r : (yLst τ).rep K H F v xs) (h : Mi.at_ xs i = some x) (k : ∀ u, τ.rep K H [] u x → Q u H) : rIxL K v (.int i) H Q := by
 obtain ⟨a, vs, e, s, q⟩ := lst_sq r
 subst e
 obtain ⟨u, e, ru⟩ := pr_at q h
 exact ⟨a, vs, i, u, rfl, rfl, s, e, k u ru⟩
theorem e_lst {vs : List V} {xs : List α} (z : vs.length ≤ Mi.big) (r : Paired (fun u x => τ.rep K H [] u x) vs xs) (k : ∀ p H', H p = none → Chg [] H H' → (yLst τ).rep K H' [p] (.ref p) xs → Q (.ref p) H') :
 LstG vs H Q := ⟨sz z, fun p np => k p _ np (Chg.lay np trivial)
   ⟨p, vs, rfl, rfl, upd_same, Paired.mapP r fun u x q => Ty.ex q (Chg.lay np trivial)⟩⟩
theorem e_tup {ty : Tys α} {vs : List V} {d : α} {F : List Addr} (z : vs.length ≤ Mi.big) (r : ty.rep K H F vs d) (k : ∀ p H', H p = none → Chg [] H H' → (yTup ty).rep K H' F (.ref p) d → Q (.ref p) H') :
 TupG vs H Q := ⟨sz z, fun p np => k p _ np (Chg.lay np trivial)
   ⟨p, vs, rfl, .inl (.inl upd_same), ty.keep r fun b o e _ => by rw [upd_ne (ne_of_none e np)]; exact e⟩⟩
theorem w_next (h : D.nx σ H) : tNext D σ H := h
theorem w_gsub {to ti : TE} {ts : TSet} {Q : L2.St → Hp → Prop} (h : to σ H fun o H1 => ti σ H1 fun i H2 => ts o i v H2 fun H3 => Q σ H3) : gSub to ti ts v σ H Q := h
theorem w_bm {T : String} {r : V → List V → Hp → VK → Prop} {to : TE} {ts : TA} (h : to σ H fun x H1 => tyV K T x H1 ∧ ts σ H1 fun xs H2 => r x xs H2 Q) : tBM K T r to ts σ H Q := h
theorem tyv_lst {xs : List α} (r : (yLst τ).rep K H F v xs) : tyV K "list" v H := by
 obtain ⟨a, vs, rfl, s, q⟩ := lst_sq r
 exact .inl ⟨rfl, _, s⟩
theorem j_tt {R : Hp → Prop} {Q : Bool → Hp → Prop} (c : Bool) (w : ∀ Q' : Bool → Hp → Prop, (∀ H', R H' → Q' c H') → t σ H Q') (k : ∀ H', R H' → Q c H') : t σ H Q := w Q k
theorem j_te {R : Hp → Prop} (x : V) (w : ∀ Q' : VK, (∀ H', R H' → Q' x H') → te σ H Q') (k : ∀ H', R H' → Q x H') : te σ H Q := w Q k
theorem q_asg {g : TG} (h : te σ H fun x H1 => g x σ H1 (t2 D)) : tSeq (tAsg te g) t2 D σ H := h
theorem q_setE {k : Nat} {w : V} (h : Val te σ H v) (ev : v = w) (e : σ.set k (some w) = σ') (q : t2 D σ' H) : tSeq (tAsg te (gName k)) t2 D σ H := by
 subst ev
 exact h _ (by show t2 D (σ.set k (some v)) H; rw [e]; exact q)
theorem q_drop (h : te σ H fun _ H1 => t2 D σ H1) : tSeq (tDrop te) t2 D σ H := h
theorem q_ret (h : te σ H D.rt) : tSeq (tRet te) t2 D σ H := h
theorem q_if {t3 : TS} (h : Ans t σ H b) (h1 : b = true → t1 { D with nx := t2 D } σ H) (h2 : b = false → t3 { D with nx := t2 D } σ H) : tSeq (tIfS t t1 t3) t2 D σ H := h _ (c_if h1 h2)
theorem q_ifS {t3 : TS} (h : t σ H fun b H1 => if b = true then t1 { D with nx := t2 D } σ H1 else t3 { D with nx := t2 D } σ H1) : tSeq (tIfS t t1 t3) t2 D σ H := h
theorem w_fall (h : t2 D σ H) : tNext { D with nx := t2 D } σ H := h
theorem w_nextJ {nx bk ct : L2.St → Hp → Prop} {rt : VK} (h : nx σ H) : tNext (Ends.mk nx rt bk ct) σ H := h
def LoopG (J : It) (g : TG) (tb : TS) (D : Ends) (nx : L2.St → Hp → Prop) (σ : L2.St) (H : Hp) : Prop := ∃ W : Nat → Nat → L2.St → Hp → Prop, (∃ m, W 0 m σ H) ∧ ∀ i m σ H, W i m σ H →
 (J.stop i H ∧ nx σ H) ∨ (J.go i H ∧ ∃ N : L2.St → Hp → Prop, (∀ σ' H', N σ' H' → ∃ m', m' < m ∧ W (i + 1) m' σ' H') ∧ ∀ x H', J.yld i H x H' → g x σ H' fun σ2 H2 => tb { D with nx := N, ct := N, bk := nx } σ2 H2)
theorem q_for {wi : TI} {g : TG} {tb : TS} (h : wi σ H fun J H1 => LoopG J g tb D (t2 D) σ H1) : tSeq (tFor wi g tb) t2 D σ H := h
theorem w_iList {tl : TE} {R : It → Hp → Prop} (h : tl σ H fun x H1 => ∃ a, x = .ref a ∧ (∃ xs, SqL K H1 a xs) ∧ R (Itl K a) H1) : iList K tl σ H R := h
theorem w_iTup {tl : TE} {R : It → Hp → Prop} (h : tl σ H fun x H1 => ∃ a, x = .ref a ∧ (∃ xs, SqT K H1 a xs) ∧ R (Itt K a) H1) : iTup K tl σ H R := h
theorem w_iRng1 {ts : TA} {R : It → Hp → Prop} (h : ts σ H fun vs H1 => ∃ j : Int, vs = [.int j] ∧ -(2 ^ 62) ≤ j ∧ j < 2 ^ 62 ∧ R (Itr 0 j.toNat) H1) : iRng1 ts σ H R := h
theorem rngO_some {lo hi : Int} {g : List Int} (h : Mi.rngO lo hi = some g) : g = Mi.rng lo hi ∧ (-(2 ^ 60) ≤ lo ∧ lo < 2 ^ 60) ∧ (-(2 ^ 60) ≤ hi ∧ hi < 2 ^ 60) := by
 unfold Mi.rngO at h
 split at h
 · rename_i c
   exact ⟨(Option.some.inj h).symm, c⟩
 · cases h
theorem rng_len (lo hi : Int) : (Mi.rng lo hi).length = (hi - lo).toNat := by unfold Mi.rng; rw [List.length_map, List.length_range]
theorem rng_at {lo hi : Int} {i : Nat} (h : i < (hi - lo).toNat) : (Mi.rng lo hi)[i]? = some (lo + i) := by
 unfold Mi.rng
 rw [List.getElem?_map, List.getElem?_range h]
 rfl
theorem l_lst {g : TG} {tb : TS} {nx : L2.St → Hp → Prop} {xs : List α} (r : (yLst τ).rep K H F v xs) (Pv : Nat → L2.St → Hp → Prop) (h0 : Pv 0 σ H) (hl : ∀ i σ' H', Pv i σ' H' → (yLst τ).rep K H' F v xs)
   (hs : ∀ (i : Nat) (x : α) (u : V) σ' H', xs[i]? = some x → τ.rep K H' [] u x → Pv i σ' H' → g u σ' H' fun σ2 H2 => tb { D with nx := Pv (i + 1), ct := Pv (i + 1), bk := nx } σ2 H2) (hd : ∀ σ' H', Pv xs.length σ' H' → nx σ' H') :
   ∃ a, v = .ref a ∧ (∃ xs, SqL K H a xs) ∧ LoopG (Itl K a) g tb D nx σ H := by
 obtain ⟨a, vs, e, s, q⟩ := lst_sq r
 refine ⟨a, e, ⟨vs, s⟩, fun i m σ' H' => m = xs.length - i ∧ i ≤ xs.length ∧ Pv i σ' H', ⟨xs.length, by omega, Nat.zero_le _, h0⟩, ?_⟩
 rintro i m σ' H' ⟨rfl, hi, p⟩
 obtain ⟨a', vs', e', s', q'⟩ := lst_sq (hl i σ' H' p)
 obtain rfl : a = a' := by rw [e] at e'; exact V.ref.inj e'
 by_cases hlt : i < xs.length
 · obtain ⟨u, hu, ru⟩ := pr_get q' (List.getElem?_eq_getElem hlt)
   refine .inr ⟨⟨vs', u, s', hu⟩, Pv (i + 1), fun σ2 H2 p' => ⟨xs.length - (i + 1), by omega, rfl, hlt, p'⟩, fun x H2 y => ?_⟩
   obtain ⟨rfl, y⟩ := y
   obtain rfl : x = u := Option.some.inj ((y _ s').symm.trans hu)
   exact hs i _ _ σ' _ (List.getElem?_eq_getElem hlt) ru p
 · obtain rfl : i = xs.length := by omega
   exact .inl ⟨⟨vs', s', by rw [pr_len q']; exact Nat.le_refl _⟩, hd σ' H' p⟩
theorem l_tup {g : TG} {tb : TS} {nx : L2.St → Hp → Prop} {xs : List α} (r : (yTupL τ).rep K H F v xs) (Pv : Nat → L2.St → Hp → Prop) (h0 : Pv 0 σ H) (hl : ∀ i σ' H', Pv i σ' H' → (yTupL τ).rep K H' F v xs)
   (hs : ∀ (i : Nat) (x : α) (u : V) σ' H', xs[i]? = some x → τ.rep K H' [] u x → Pv i σ' H' → g u σ' H' fun σ2 H2 => tb { D with nx := Pv (i + 1), ct := Pv (i + 1), bk := nx } σ2 H2) (hd : ∀ σ' H', Pv xs.length σ' H' → nx σ' H') :
   ∃ a, v = .ref a ∧ (∃ xs, SqT K H a xs) ∧ LoopG (Itt K a) g tb D nx σ H := by
 obtain ⟨a, vs, e, s, q⟩ := tupl_sq r
 refine ⟨a, e, ⟨vs, s⟩, fun i m σ' H' => m = xs.length - i ∧ i ≤ xs.length ∧ Pv i σ' H', ⟨xs.length, by omega, Nat.zero_le _, h0⟩, ?_⟩
 rintro i m σ' H' ⟨rfl, hi, p⟩
 obtain ⟨a', vs', e', s', q'⟩ := tupl_sq (hl i σ' H' p)
 obtain rfl : a = a' := by rw [e] at e'; exact V.ref.inj e'
 by_cases hlt : i < xs.length
 · obtain ⟨u, hu, ru⟩ := pr_get q' (List.getElem?_eq_getElem hlt)
   refine .inr ⟨⟨vs', u, s', hu⟩, Pv (i + 1), fun σ2 H2 p' => ⟨xs.length - (i + 1), by omega, rfl, hlt, p'⟩, fun x H2 y => ?_⟩
   obtain ⟨rfl, y⟩ := y
   obtain rfl : x = u := Option.some.inj ((y _ s').symm.trans hu)
   exact hs i _ _ σ' _ (List.getElem?_eq_getElem hlt) ru p
 · obtain rfl : i = xs.length := by omega
   exact .inl ⟨⟨vs', s', by rw [pr_len q']; exact Nat.le_refl _⟩, hd σ' H' p⟩
end
def At {α β : Type} (ts : Tys α) (n : Nat) (τ : Ty β) (p : α → β) : Prop := ∀ {K : PySem.W.Frag} {H : Hp} {F : List Addr} {vs : List V} {d : α}, ts.rep K H F vs d → ∃ u F1, vs[n]? = some u ∧ τ.rep K H F1 u (p d) ∧ ∀ a ∈ F1, a ∈ F
theorem at1 {α : Type} {τ : Ty α} : At (sOne τ) 0 τ id := fun h => by
 obtain ⟨v, rfl, r⟩ := h
 exact ⟨v, _, rfl, r, fun _ h => h⟩
theorem at0 {α β : Type} {τ : Ty α} {ts : Tys β} : At (sCons τ ts) 0 τ (fun d => d.1) := fun h => by
 obtain ⟨v, ws, F1, F2, rfl, rfl, r, q⟩ := h
 exact ⟨v, F1, rfl, r, fun _ h => List.mem_append_left _ h⟩
theorem atS {α β γ : Type} {τ : Ty α} {ts : Tys β} {n : Nat} {υ : Ty γ} {p : β → γ} (A : At ts n υ p) : At (sCons τ ts) (n + 1) υ (fun d => p d.2) := fun h => by
 obtain ⟨v, ws, F1, F2, rfl, rfl, r, q⟩ := h
 obtain ⟨u, F3, e, ru, sub⟩ := A q
 exact ⟨u, F3, e, ru, fun _ h => List.mem_append_right _ (sub _ h)⟩
theorem Dj.sub {F G F1 : List Addr} (d : Dj F G) (s : ∀ a ∈ F1, a ∈ F) : Dj F1 G := fun a h => d a (s a h)
end G
namespace G
open PySem PySem.Spec PyProof.Rows L2
section
variable {K : PySem.W.Frag} {σ σ' : L2.St} {H : Hp} {F G F1 F2 : List Addr} {ta tb te : TE} {v u x y w : V} {i j : Int} {t tu : TT} {b c a : Bool} {α β : Type} {τ : Ty α} {Q : VK} {D : Ends} {t1 t2 : TS}
theorem g_nameE {k : Nat} {Q : L2.St → Hp → Prop} (ev : v = w) (e : σ.set k (some w) = σ') (q : Q σ' H) : gName k v σ H Q := g_name (by rw [ev]; exact e) q
theorem nn_str {s : Str} : V.str s ≠ .non := fun z => nomatch z
theorem opt_some {d : Option α} {x : α} (r : (yOpt τ).rep K H F v d) (h : d = some x) : τ.rep K H F v x := by subst h; exact r.2
theorem opt_str {d : Option (List Nat)} {x : List Nat} (r : (yOpt yStr).rep K H F v d) (h : d = some x) : F = [] ∧ v = .str (toS x) := opt_some r h
theorem opt_dec {d : Option α} (r : (yOpt τ).rep K H F v d) : decide (v = .non) = d.isNone := by
 cases d with
 | none => obtain ⟨_, rfl⟩ := r; rfl
 | some x => exact decide_eq_false r.1
theorem opt_decN {d : Option α} (r : (yOpt τ).rep K H F v d) : (!decide (v = .non)) = d.isSome := by
 rw [opt_dec r]; cases d <;> rfl
theorem val_notN {d : Option α} (r : (yOpt τ).rep K H F v d) (ha : Val ta σ H v) : Val (tOp rNotN ta (tC .non)) σ H (.bl d.isSome) := val_op ha val_c fun Q q => ⟨rfl, by rw [opt_decN r]; exact q⟩
theorem Dj.app (d1 : Dj F1 G) (d2 : Dj F2 G) : Dj (F1 ++ F2) G := fun a h => (List.mem_append.mp h).elim (d1 a) (d2 a)
theorem app_fresh {H0 : Hp} (n1 : ∀ a ∈ F1, H0 a = none) (n2 : ∀ a ∈ F2, H0 a = none) : ∀ a ∈ F1 ++ F2, H0 a = none := fun a h => (List.mem_append.mp h).elim (n1 a) (n2 a)
theorem nil_fresh {H0 : Hp} : ∀ a ∈ ([] : List Addr), H0 a = none := fun a h => nomatch h
end
end G
namespace G
open PySem PySem.Spec PyProof.Rows L2
theorem fn_law {P : Program} {w : World} {K : PySem.W.Frag} {mg : Str → Option Value} {x : Str} {k : Nat} {sp : Sp} {fa : Addr} (hfa : mg x = some (.ref fa)) {p : Str} (c : Cal P w K mg x [p] k sp) :
   ∃ fd : FuncData, (∀ (s : Shared) (v : Value), BindsTo s fd ⟨[v], []⟩ [(p, v)]) ∧ ∀ base : Heap, K.In base → base.Ns mainGlobals mg → FnOk P w K mg base CX0 k fa fd [p] sp := by
 obtain ⟨f, fd, g, _, b, ok⟩ := c.ex
 obtain rfl : fa = f := Value.ref.inj (Option.some.inj (hfa.symm.trans g))
 exact ⟨fd, fun s v => b s [v] rfl, fun base _ _ => ok base⟩
end G
namespace G
open PySem PySem.Spec PyProof.Rows L2
section
variable {K : PySem.W.Frag} {σ σ' : L2.St} {H : Hp} {F F1 F2 : List Addr} {ta tb te : TE} {v u x y w : V} {i j : Int} {t tu tt : TT} {b c a : Bool} {α β : Type} {τ : Ty α} {υ : Ty β} {Q : VK} {D : Ends} {t1 t2 : TS} {g : TG} {ws : List Nat}
def AppG (D : Addr) (N : Hp → Prop) (y : V) (H : Hp) : Prop := ∃ acc, H D = some (.lst acc) ∧ acc.length < sizeLine ∧ N (upd H D (.lst (acc ++ [y])))
def TurnG (g : TG) (tt : TT) (te : TE) (ws : List Nat) (σ : L2.St) (D : Addr) (N : Hp → Prop) (x : V) (H : Hp) : Prop :=
 g x (wipe σ ws) H fun σ2 H2 => wipe σ2 ws = wipe σ ws ∧ tt σ2 H2 fun b H3 => if b = true then te σ2 H3 (AppG D N) else N H3
def CompG (J : It) (g : TG) (tt : TT) (te : TE) (ws : List Nat) (σ : L2.St) (H : Hp) (Q : VK) : Prop := ∀ D, H D = none → ∃ W : Nat → Nat → Hp → Prop, (∃ m, W 0 m (upd H D (.lst []))) ∧ ∀ i m H, W i m H →
 (J.stop i H ∧ Q (.ref D) H) ∨ (J.go i H ∧ ∃ N : Hp → Prop, (∀ H', N H' → ∃ m', m' < m ∧ W (i + 1) m' H') ∧ ∀ x H', J.yld i H x H' → TurnG g tt te ws σ D N x H')
theorem w_lc {wi : TI} (h : wi σ H fun J H1 => CompG J g tt te ws σ H1 Q) : tLc wi g tt te ws σ H Q := h
theorem empty_lst {p : Addr} (np : H p = none) : (yLst τ).rep K (upd H p (.lst [])) [p] (.ref p) [] := ⟨p, [], rfl, rfl, upd_same, .nil⟩
theorem comp_by {J : It} (n : Nat) (Pv : Addr → Nat → Hp → Prop) (h0 : ∀ D H', H D = none → Chg [] H H' → (yLst τ).rep K H' [D] (.ref D) [] → Pv D 0 H')
   (hs : ∀ D i H', i < n → Pv D i H' → J.go i H' ∧ ∀ x H2, J.yld i H' x H2 → TurnG g tt te ws σ D (Pv D (i + 1)) x H2) (hd : ∀ D H', H D = none → Pv D n H' → J.stop n H' ∧ Q (.ref D) H') : CompG J g tt te ws σ H Q := by
 intro D hD
 refine ⟨fun i m H' => m = n - i ∧ i ≤ n ∧ Pv D i H', ⟨n, by omega, Nat.zero_le _, h0 D _ hD (Chg.lay hD trivial) (empty_lst hD)⟩, ?_⟩
 rintro i m H' ⟨rfl, hi, p⟩
 by_cases hlt : i < n
 · obtain ⟨h1, h2⟩ := hs D i H' hlt p
   exact .inr ⟨h1, Pv D (i + 1), fun H2 p' => ⟨n - (i + 1), by omega, rfl, hlt, p'⟩, h2⟩
 · obtain rfl : i = n := by omega
   exact .inl (hd D H' hD p)
theorem kc_tup {xs : List β} (r : (yTupL υ).rep K H F v xs) (Pv : Addr → Nat → Hp → Prop) (h0 : ∀ D H', H D = none → Chg [] H H' → (yLst τ).rep K H' [D] (.ref D) [] → Pv D 0 H') (hl : ∀ D i H', Pv D i H' → (yTupL υ).rep K H' F v xs)
   (hs : ∀ D (i : Nat) (x : β) (u : V) H', xs[i]? = some x → υ.rep K H' [] u x → Pv D i H' → TurnG g tt te ws σ D (Pv D (i + 1)) u H') (hd : ∀ D H', H D = none → Pv D xs.length H' → Q (.ref D) H') :
   ∃ a, v = .ref a ∧ (∃ xs, SqT K H a xs) ∧ CompG (Itt K a) g tt te ws σ H Q := by
 obtain ⟨a, vs, e, s, q⟩ := tupl_sq r
 refine ⟨a, e, ⟨vs, s⟩, comp_by (K := K) (τ := τ) xs.length Pv h0 (fun D i H' hi p => ?_) (fun D H' hD p => ?_)⟩
 · obtain ⟨a', vs', e', s', q'⟩ := tupl_sq (hl D i H' p)
   obtain rfl : a = a' := by rw [e] at e'; exact V.ref.inj e'
   obtain ⟨u, hu, ru⟩ := pr_get q' (List.getElem?_eq_getElem hi)
   refine ⟨⟨vs', u, s', hu⟩, fun x H2 y => ?_⟩
   obtain ⟨rfl, y⟩ := y
   obtain rfl : x = u := Option.some.inj ((y _ s').symm.trans hu)
   exact hs D i _ _ _ (List.getElem?_eq_getElem hi) ru p
 · obtain ⟨a', vs', e', s', q'⟩ := tupl_sq (hl D _ H' p)
   obtain rfl : a = a' := by rw [e] at e'; exact V.ref.inj e'
   exact ⟨⟨vs', s', by rw [pr_len q']; exact Nat.le_refl _⟩, hd D H' hD p⟩
theorem kc_rng {lo hi : Int} (Pv : Addr → Nat → Hp → Prop) (h0 : ∀ D H', H D = none → Chg [] H H' → (yLst τ).rep K H' [D] (.ref D) [] → Pv D 0 H')
   (hs : ∀ D (i : Nat) (x : Int) H', (Mi.rng lo hi)[i]? = some x → Pv D i H' → TurnG g tt te ws σ D (Pv D (i + 1)) (.int x) H') (hd : ∀ D H', H D = none → Pv D (Mi.rng lo hi).length H' → Q (.ref D) H') :
   CompG (Itr lo (hi - lo).toNat) g tt te ws σ H Q := by
 refine comp_by (K := K) (τ := τ) (hi - lo).toNat Pv h0 (fun D i H' hi' p => ⟨hi', fun x H2 y => ?_⟩) (fun D H' hD p => ⟨Nat.le_refl _, hd D H' hD (by rw [rng_len]; exact p)⟩)
 obtain ⟨rfl, rfl⟩ := y
 exact hs D i _ _ (rng_at hi') p
theorem kc_rng1 {hi : Int} {xs : List Int} (hg : Mi.rngO 0 hi = some xs) (Pv : Addr → Nat → Hp → Prop) (h0 : ∀ D H', H D = none → Chg [] H H' → (yLst τ).rep K H' [D] (.ref D) [] → Pv D 0 H')
   (hs : ∀ D (i : Nat) (x : Int) H', xs[i]? = some x → Pv D i H' → TurnG g tt te ws σ D (Pv D (i + 1)) (.int x) H') (hd : ∀ D H', H D = none → Pv D xs.length H' → Q (.ref D) H') :
   ∃ j : Int, [V.int hi] = [.int j] ∧ -(2 ^ 62) ≤ j ∧ j < 2 ^ 62 ∧ CompG (Itr 0 j.toNat) g tt te ws σ H Q := by
 obtain ⟨rfl, _, h1, h2⟩ := rngO_some hg
 refine ⟨hi, rfl, by omega, by omega, ?_⟩
 have e : hi.toNat = (hi - 0).toNat := by rw [Int.sub_zero]
 rw [e]
 exact kc_rng (K := K) (τ := τ) Pv h0 hs hd
theorem e_app {D : Addr} {N : Hp → Prop} {xs ys : List α} {d : α} (r : (yLst τ).rep K H [D] (.ref D) xs) (ru : τ.rep K H [] u d) (hm : Mi.app xs d = some ys) (k : ∀ H', Chg [D] H H' → (yLst τ).rep K H' [D] (.ref D) ys → N H') :
   AppG D N u H := by
 obtain ⟨p, vs, e, f, g, q⟩ := r
 obtain rfl : D = p := V.ref.inj e
 unfold Mi.app at hm
 split at hm
 · rename_i hz
   cases hm
   have c : Chg [D] H (upd H D (.lst (vs ++ [u]))) := Chg.wr g (fun z => z)
   exact ⟨vs, g, Nat.lt_of_lt_of_le (by rw [pr_len q]; exact hz) line_big, k _ c ⟨D, _, rfl, rfl, upd_same, pr_app (Paired.mapP q fun _ _ z => Ty.fz z c) (.cons (Ty.fz ru c) .nil)⟩⟩
 · cases hm
theorem w_cat {xs ys zs : List α} (r : (yLst τ).rep K H F1 v xs) (q : (yLst τ).rep K H F2 u ys) (hm : Mi.cat xs ys = some zs) (k : ∀ p H', H p = none → Chg [] H H' → (yLst τ).rep K H' [p] (.ref p) zs → Q (.ref p) H') : rCat v u H Q := by
 obtain ⟨p, vs, rfl, rfl, g, r1⟩ := r
 obtain ⟨p2, us, rfl, rfl, g2, r2⟩ := q
 unfold Mi.cat at hm
 split at hm
 · rename_i hz
   cases hm
   refine ⟨p, p2, vs, us, rfl, rfl, g, g2, sz (by rw [pr_len r1, pr_len r2]; exact hz), fun n nn => k n _ nn (Chg.lay nn trivial) ⟨n, _, rfl, rfl, upd_same, ?_⟩⟩
   exact Paired.mapP (pr_app r1 r2) fun _ _ z => Ty.ex z (Chg.lay nn trivial)
 · cases hm
theorem w_sl {r : V → Option Int → Option Int → Hp → VK → Prop} {tl th : TO} (h : te σ H fun x H1 => tl σ H1 fun l H2 => th σ H2 fun u H3 => r x l u H3 Q) : tSl r te tl th σ H Q := h
theorem w_pon {Q : Option Int → Hp → Prop} (h : Q none H) : tNoPart σ H Q := h
theorem w_pos {Q : Option Int → Hp → Prop} (h : te σ H fun x H1 => ∃ i, x = .int i ∧ Q (some i) H1) : tPart te σ H Q := h
theorem sl_l {X : Cx} {K : PySem.W.Frag} (e : X.K = K := by rfl) : SlR X (rSlL K) := by subst e; exact sl_list
theorem cut_eq {α : Type} (xs : List α) (lo hi : Option Int) : (xs.drop (HT.sIx xs.length 0 lo)).take (HT.sIx xs.length xs.length hi - HT.sIx xs.length 0 lo) = Mi.cut xs lo hi := by
 have e : ∀ n d o, HT.sIx n d o = Mi.sIx n d o := fun n d o => by cases o <;> rfl
 unfold Mi.cut
 rw [e, e]
theorem pr_cut {R : V → α → Prop} {vs : List V} {xs : List α} (r : Paired R vs xs) (lo hi : Option Int) : Paired R (cutV vs lo hi) (Mi.cut xs lo hi) := by
 rw [← cut_eq]
 unfold cutV
 rw [pr_len r]
 exact pr_take _ (pr_drop _ r)
def rListQ (K : PySem.W.Frag) : List V → Hp → VK → Prop := fun xs H Q => ∃ p ys, xs = [.ref p] ∧ (SqL K H p ys ∨ SqT K H p ys) ∧ ∀ l, H l = none → Q (.ref l) (upd H l (.lst ys))
def rTupleQ (K : PySem.W.Frag) : List V → Hp → VK → Prop := fun xs H Q => ∃ p ys, xs = [.ref p] ∧ ((SqL K H p ys ∧ ∀ l, H l = none → Q (.ref l) (upd H l (.tup ys))) ∨ (SqT K H p ys ∧ Q (.ref p) H))
theorem cl_list {X : Cx} {K : PySem.W.Frag} (e : X.K = K := by rfl) : CallR X (.type "list") (rListQ K) := by subst e; exact call_list_of
theorem cl_tuple {X : Cx} {K : PySem.W.Frag} (e : X.K = K := by rfl) : CallR X (.type "tuple") (rTupleQ K) := by subst e; exact call_tuple_of
theorem w_listL {xs : List α} (r : (yLst τ).rep K H F v xs) (k : ∀ p H', H p = none → Chg [] H H' → (yLst τ).rep K H' [p] (.ref p) xs → Q (.ref p) H') : rListQ K [v] H Q := by
 obtain ⟨p, vs, rfl, s, q⟩ := lst_sq r
 exact ⟨p, vs, rfl, .inl s, fun n nn => k n _ nn (Chg.lay nn trivial) ⟨n, _, rfl, rfl, upd_same, Paired.mapP q fun _ _ z => Ty.ex z (Chg.lay nn trivial)⟩⟩
theorem w_listT {xs : List α} (r : (yTupL τ).rep K H F v xs) (k : ∀ p H', H p = none → Chg [] H H' → (yLst τ).rep K H' [p] (.ref p) xs → Q (.ref p) H') : rListQ K [v] H Q := by
 obtain ⟨p, vs, rfl, s, q⟩ := tupl_sq r
 exact ⟨p, vs, rfl, .inr s, fun n nn => k n _ nn (Chg.lay nn trivial) ⟨n, _, rfl, rfl, upd_same, Paired.mapP q fun _ _ z => Ty.ex z (Chg.lay nn trivial)⟩⟩
theorem w_tupleL {xs : List α} (r : (yLst τ).rep K H F v xs) (k : ∀ v H', Chg [] H H' → (yTupL τ).rep K H' [] v xs → Q v H') : rTupleQ K [v] H Q := by
 obtain ⟨p, vs, rfl, s, q⟩ := lst_sq r
 exact ⟨p, vs, rfl, .inl ⟨s, fun n nn => k _ _ (Chg.lay nn trivial) ⟨n, _, rfl, rfl, .inl (.inl upd_same), Paired.mapP q fun _ _ z => Ty.ex z (Chg.lay nn trivial)⟩⟩⟩
theorem op_in_q {X : Cx} {K : PySem.W.Frag} (e : X.K = K := by rfl) : OpR X (compareOp .In) (rIn K false) := by subst e; exact op_in_seq
theorem flat_ints (ns : List Int) : (ns.map V.int).all flatV = true := by
 rw [List.all_eq_true]
 intro x hx
 obtain ⟨n, _, rfl⟩ := List.mem_map.mp hx
 rfl
theorem in_ints (n : Int) : ∀ ns : List Int, inV (.int n) (ns.map V.int) = ns.contains n
 | [] => rfl
 | m :: ns => by
   have ih := in_ints n ns
   unfold inV at ih ⊢
   rw [List.map_cons, List.any_cons, List.contains_cons, ih]
   congr 1
   show (m == n) = (n == m)
   by_cases h : m = n
   · subst h; rfl
   · rw [beq_eq_false_iff_ne.mpr h, beq_eq_false_iff_ne.mpr (Ne.symm h)]
theorem ints_sqL {xs : List Int} (r : (yLst yInt).rep K H F v xs) : ∃ a, v = .ref a ∧ SqL K H a (xs.map V.int) := by
 obtain ⟨a, vs, e, s, q⟩ := lst_sq r
 rw [ints_of q] at s
 exact ⟨a, e, s⟩
theorem ints_sqT {xs : List Int} (r : (yTupL yInt).rep K H F v xs) : ∃ a, v = .ref a ∧ SqT K H a (xs.map V.int) := by
 obtain ⟨a, vs, e, s, q⟩ := tupl_sq r
 rw [ints_of q] at s
 exact ⟨a, e, s⟩
theorem w_inL {xs : List Int} (r : (yLst yInt).rep K H F v xs) (k : Q (.bl (xs.contains i)) H) : rIn K false (.int i) v H Q := by
 obtain ⟨a, rfl, s⟩ := ints_sqL r
 exact ⟨a, _, rfl, .inl s, rfl, flat_ints xs, by rw [if_neg Bool.false_ne_true, in_ints]; exact k⟩
end
end G
namespace G
open PySem PySem.Spec PyProof.Rows L2
theorem lookup_zip {f : Str} : ∀ {ns : List Str} {vs : List V} {n : Nat} {u : V}, ns.Nodup → ns[n]? = some f → vs[n]? = some u → (ns.zip vs).lookup f = some u
 | [], _, _, _, _, h, _ => by simp at h
 | _ :: _, [], _, _, _, _, h => by simp at h
 | m :: ns, w :: vs, 0, u, nd, h, h2 => by
   obtain rfl : m = f := by simpa using h
   obtain rfl : w = u := by simpa using h2
   simp [List.lookup]
 | m :: ns, w :: vs, n + 1, u, nd, h, h2 => by
   have hne : (f == m) = false := by
     rw [beq_eq_false_iff_ne]
     intro e
     subst e
     have h3 : ns[n]? = some f := by simpa using h
     exact (List.nodup_cons.mp nd).1 (List.mem_of_getElem? h3)
   rw [List.zip_cons_cons]
   simp only [List.lookup, hne]
   exact lookup_zip (List.nodup_cons.mp nd).2 (by simpa using h) (by simpa using h2)
def yObj {α : Type} (C : Addr) (ns : List Str) (ts : Tys α) : Ty α where
 rep K H F v d := F = [] ∧ ∃ a dx vs, v = .ref a ∧ H a = some (.ins C dx (ns.zip vs)) ∧ done (ns.zip vs) = true ∧ ts.rep K H [] vs d
 keep {K H H' F v d} h k := by
   obtain ⟨e, a, dx, vs, e2, g, f, r⟩ := h
   exact ⟨e, a, dx, vs, e2, k a _ g (.inr f), f, ts.keep r fun b o hb z => k b o hb (z.elim (fun y => nomatch y) .inr)⟩
 dom {K H F v d} h b m := by rw [h.1] at m; cases m
def yPart (C dx : Addr) (ns : List Str) : Ty (List V) where
 rep K H F v ws := ∃ x, v = .ref x ∧ F = [x] ∧ H x = some (.ins C dx (ns.zip ws)) ∧ done (ns.zip ws) = false
 keep {K H H' F v ws} h k := by
   obtain ⟨x, e, rfl, g, f⟩ := h
   exact ⟨x, e, rfl, k x _ g (.inl (List.mem_singleton.mpr rfl)), f⟩
 dom {K H F v ws} h b m := by
   obtain ⟨x, e, rfl, g, f⟩ := h
   rw [List.mem_singleton] at m; subst m
   exact ⟨_, g, fun z => by have z' : done _ = true := z; rw [f] at z'; cases z'⟩
section
variable {K : PySem.W.Frag} {σ σ' : L2.St} {H : Hp} {F : List Addr} {ta tb te tv : TE} {v u x y w : V} {α β : Type} {τ : Ty α} {Q : VK} {D : Ends} {t1 t2 : TS} {C dx p : Addr} {ns : List Str} {f : Str}
def FldG (K : PySem.W.Frag) (f : Str) (x : V) (H : Hp) (Q : VK) : Prop := ∃ a C dx fs v, x = .ref a ∧ H a = some (.ins C dx fs) ∧ Cls K C ∧ NoAttr K C f ∧ fs.lookup f = some v ∧ Q v H
theorem fld_obj {ts : Tys α} {n : Nat} {υ : Ty β} {pr : α → β} {d : α} (A : At ts n υ pr) (nd : ns.Nodup) (hn : ns[n]? = some f) (c : Cls K C) (na : NoAttr K C f) (r : (yObj C ns ts).rep K H F v d) :
   ∃ u, υ.rep K H [] u (pr d) ∧ (∀ {Q : VK}, Q u H → FldG K f v H Q) ∧ ∀ {σ : L2.St} {ta : TE}, Val ta σ H v → Val (tFld K ta f) σ H u := by
 obtain ⟨_, a, dx, vs, rfl, g, _, rs⟩ := r
 obtain ⟨u, F1, e, ru, sub⟩ := A rs
 have e1 : F1 = [] := by
   cases F1 with
   | nil => rfl
   | cons z zs => exact nomatch sub z (List.mem_cons_self ..)
 subst e1
 have k : ∀ {Q : VK}, Q u H → FldG K f (.ref a) H Q := fun q => ⟨a, C, dx, _, u, rfl, g, c, na, lookup_zip nd hn e, q⟩
 exact ⟨u, ru, k, fun ha Q q => ha _ (k q)⟩
def SFldG (K : PySem.W.Frag) (f : Str) (y x : V) (H : Hp) (X : Hp → Prop) : Prop := ∃ a C dx fs, x = .ref a ∧ H a = some (.ins C dx fs) ∧ Cls K C ∧ NoAttr K C f ∧ fs.length < 1000 ∧ X (upd H a (.ins C dx (putF f y fs)))
theorem q_fld (h : tv σ H fun y H1 => ta σ H1 fun x H2 => SFldG K f y x H2 (t2 D σ)) : tSeq (sFld K ta tv f) t2 D σ H := h
theorem putF_zip {f : Str} {y : V} : ∀ {ns : List Str} {ws : List V}, f ∉ ns → ns.length = ws.length → putF f y (ns.zip ws) = (ns ++ [f]).zip (ws ++ [y])
 | [], [], _, _ => rfl
 | [], _ :: _, _, h => by simp at h
 | _ :: _, [], _, h => by simp at h
 | m :: ns, w :: ws, hf, h => by
   have hne : f ≠ m := fun e => hf (by rw [e]; exact List.mem_cons_self ..)
   have ih := putF_zip (f := f) (y := y) (ns := ns) (ws := ws) (fun z => hf (List.mem_cons_of_mem _ z)) (by simpa using h)
   rw [List.zip_cons_cons]
   show putF f y ((m, w) :: ns.zip ws) = _
   unfold putF
   split
   · rename_i e
     exact absurd (by simpa using e) (by first | exact hne | exact (Ne.symm hne))
   · rw [ih]; rfl
theorem m_fldP {ws : List V} {X : Hp → Prop} (r : (yPart C dx ns).rep K H F v ws) (c : Cls K C) (na : NoAttr K C f) (hf : f ∉ ns) (hl : ns.length = ws.length) (hs : ns.length < 900) (hd : done ((ns ++ [f]).zip (ws ++ [y])) = false)
   (k : ∀ H', Chg F H H' → (yPart C dx (ns ++ [f])).rep K H' F v (ws ++ [y]) → X H') : SFldG K f y v H X := by
 obtain ⟨a, rfl, rfl, g, nf⟩ := r
 have cc : Chg [a] H (upd H a (.ins C dx (putF f y (ns.zip ws)))) := Chg.wr g (fun z => by have z' : done _ = true := z; rw [nf] at z'; cases z') (fun _ _ _ z => by cases z; exact ⟨_, rfl⟩) (.inr ⟨_, g⟩)
 refine ⟨a, C, dx, _, rfl, g, c, na, by rw [List.length_zip, ← hl]; omega, k _ cc ⟨a, rfl, rfl, ?_, hd⟩⟩
 rw [upd_same, putF_zip hf hl]
theorem m_fldE {ws : List V} {X : Hp → Prop} {ts : Tys α} {d : α} (r : (yPart C dx ns).rep K H F v ws) (c : Cls K C) (na : NoAttr K C f) (hf : f ∉ ns) (hl : ns.length = ws.length) (hs : ns.length < 900) (hd : done ((ns ++ [f]).zip (ws ++ [y])) = true)
   (rs : ts.rep K H [] (ws ++ [y]) d) (k : ∀ H', Chg F H H' → (yObj C (ns ++ [f]) ts).rep K H' [] v d → X H') : SFldG K f y v H X := by
 obtain ⟨a, rfl, rfl, g, nf⟩ := r
 have cc : Chg [a] H (upd H a (.ins C dx (putF f y (ns.zip ws)))) := Chg.wr g (fun z => by have z' : done _ = true := z; rw [nf] at z'; cases z') (fun _ _ _ z => by cases z; exact ⟨_, rfl⟩) (.inr ⟨_, g⟩)
 refine ⟨a, C, dx, _, rfl, g, c, na, by rw [List.length_zip, ← hl]; omega, k _ cc ⟨rfl, a, dx, _, rfl, ?_, hd, ts.keep rs fun b o hb z => cc.keep b o hb (z.elim (fun y => nomatch y) .inr)⟩⟩
 rw [upd_same, putF_zip hf hl]
def MakeG (C : Addr) (sp : Sp) (E : XK) (vs : V → List V) (H : Hp) (Q : VK) : Prop := ∀ x dx, H x = none → H dx = none → dx ≠ x → sp (vs (.ref x)) (upd (upd H dx (.own x)) x (.ins C dx [])) (fun v H3 => v = .non ∧ Q (.ref x) H3) E
theorem make_chg {x : Addr} {fs : List (Str × V)} (nx : H x = none) (nd : H dx = none) (ne : dx ≠ x) : Chg [] H (upd (upd H dx (.own x)) x (.ins C dx fs)) := by
 refine ⟨fun b o h _ => ?_, fun b h => ?_, fun a C' d fs' h => ⟨fs', ?_⟩, fun b o h => ?_⟩
 · rw [upd_ne (ne_of_none h nx), upd_ne (ne_of_none h nd)]; exact h
 · by_cases e : b = x
   · subst e; exact nx
   · rw [upd_ne e] at h
     by_cases e2 : b = dx
     · subst e2; exact nd
     · rw [upd_ne e2] at h; exact h
 · rw [upd_ne (ne_of_none h nx), upd_ne (ne_of_none h nd)]; exact h
 · by_cases e : b = x
   · subst e; rw [upd_same] at h; cases h; exact .inr (.inl nd)
   · rw [upd_ne e] at h
     by_cases e2 : b = dx
     · subst e2; rw [upd_same] at h; cases h; exact .inr ⟨_, _, upd_same⟩
     · rw [upd_ne e2] at h; exact .inl h
theorem make_new {x : Addr} (nx : H x = none) (nd : H dx = none) (ne : dx ≠ x) : Chg [] H (upd (upd H dx (.own x)) x (.ins C dx [])) ∧ (yPart C dx []).rep K (upd (upd H dx (.own x)) x (.ins C dx [])) [x] (.ref x) [] :=
 ⟨make_chg nx nd ne, x, rfl, rfl, upd_same, rfl⟩
end
end G
namespace G
open PySem PySem.Spec PyProof.Rows L2
structure Tx (K : PySem.W.Frag) (mg : Str → Option Value) (C : Addr) (x : Str) (ns : List Str) : Prop where
 cls : Cls K C
 mgC : mg x = some (.ref C)
 na : ∀ f ∈ ns, NoAttr K C f
structure CalI (P : Program) (w : World) (K : PySem.W.Frag) (mg : Str → Option Value) (C : Addr) (qual : Str) (st : Stmt) (kws : List (Str × V)) (ps : List Str) (k : Nat) (sp : Sp) : Prop where
 ex : ∃ f fd, Mk K C f ∧ FunD K "__init__" qual (defArgs st) (defBody st) (defScope st) [] kws f fd ∧ ∀ base : Heap, FnOk P w K mg base CX0 k f fd ps sp
structure DfnI (K : PySem.W.Frag) (C : Addr) (qual : Str) (st : Stmt) (kws : List (Str × V)) : Prop where
 ex : ∃ f fd, FunD K "__init__" qual (defArgs st) (defBody st) (defScope st) [] kws f fd ∧ Mk K C f
section
variable {X : Cx} {K : PySem.W.Frag} {σ : L2.St} {H : Hp} {F : List Addr} {ta te : TE} {v : V} {α : Type} {Q : VK} {C : Addr} {ns : List Str} {m : Str}
theorem w_makeK {n k : Nat} {sp : Sp} {gV : List V → List V → List V} {E : XK} {t tk : TA} (h : t σ H fun vs H1 => tk σ H1 fun zs H2 => vs.length = n ∧ zs.length = k ∧ MakeG C sp E (fun x => gV (x :: vs) zs) H2 Q) : tMakeK C n k sp gV E t tk σ H Q := h
theorem w_mk {sp : Sp} {E : XK} {t : TA} {dvs : List V} (h : t σ H fun vs H1 => MakeG C sp E (fun x => x :: (vs ++ dvs)) H1 Q) : tMake C sp dvs E t σ H Q := h
end
end G
namespace G
open PySem PySem.Spec PyProof.Rows L2
section
variable {K : PySem.W.Frag} {σ σ' : L2.St} {H : Hp} {F F1 F2 Fu : List Addr} {ta tb te : TE} {v u x y : V} {i j : Int} {t tu tt : TT} {b c a : Bool} {α β : Type} {τ : Ty α} {υ : Ty β} {Q : VK} {D : Ends} {t1 t2 : TS} {g : TG} {ws : List Nat}
theorem shlC {i j r : Int} (h : Mi.shl i j = some r) : CPow i j ∧ i * 2 ^ j.toNat = r := by
 unfold Mi.shl at h
 split at h
 · rename_i hc
   exact ⟨⟨hc.1, by omega, by omega⟩, Option.some.inj h⟩
 · cases h
theorem shrC {i j r : Int} (h : Mi.shr i j = some r) : 0 ≤ j ∧ i / 2 ^ j.toNat = r := by
 unfold Mi.shr at h
 split at h
 · exact ⟨by assumption, Option.some.inj h⟩
 · cases h
theorem val_shlO {r : Int} (ha : Val ta σ H (.int i)) (hb : Val tb σ H (.int j)) (h : Mi.shl i j = some r) : Val (tOp (rI CPow fun i j => .int (i * 2 ^ j.toNat)) ta tb) σ H (.int r) := val_is (val_I (g := fun i j => .int (i * 2 ^ j.toNat)) ha hb (shlC h).1) (by rw [← (shlC h).2])
theorem val_shrO {r : Int} (ha : Val ta σ H (.int i)) (hb : Val tb σ H (.int j)) (h : Mi.shr i j = some r) : Val (tOp (rI (fun _ j => 0 ≤ j) fun i j => .int (i / 2 ^ j.toNat)) ta tb) σ H (.int r) := val_is (val_I (g := fun i j => .int (i / 2 ^ j.toNat)) ha hb (shrC h).1) (by rw [← (shrC h).2])
theorem cl_sortedL {X : Cx} {K : PySem.W.Frag} (e : X.K = K := by rfl) : CallR X (.builtin "sorted") (rSortedI K) := by subst e; exact cr_sortedI
theorem sortI_perm (xs : List Int) : (Mi.sortI xs).Perm xs := List.mergeSort_perm _ _
theorem sortI_sorted (xs : List Int) : (Mi.sortI xs).Pairwise (· ≤ ·) := by
 have h := List.pairwise_mergeSort (le := fun a b : Int => decide (a ≤ b)) (fun a b c h1 h2 => by simp at *; omega) (fun a b => by simp; omega) xs
 exact List.Pairwise.imp (fun h => by simpa using h) h
theorem sorted_unique : ∀ {xs ys : List Int}, xs.Perm ys → xs.Pairwise (· ≤ ·) → ys.Pairwise (· ≤ ·) → xs = ys
 | [], ys, p, _, _ => (List.Perm.nil_eq p)
 | x :: xs, [], p, _, _ => absurd p.length_eq (by simp)
 | x :: xs, y :: ys, p, h1, h2 => by
   have hx := List.pairwise_cons.mp h1
   have hy := List.pairwise_cons.mp h2
   have e : x = y := by
     have a1 : y ∈ x :: xs := p.mem_iff.mpr (List.mem_cons_self ..)
     have a2 : x ∈ y :: ys := p.mem_iff.mp (List.mem_cons_self ..)
     rcases List.mem_cons.mp a1 with r | r
     · exact r.symm
     · rcases List.mem_cons.mp a2 with q | q
       · exact q
       · have := hx.1 y r
         have := hy.1 x q
         omega
   subst e
   rw [sorted_unique (List.Perm.cons_inv p) hx.2 hy.2]
theorem w_sortedL {xs : List Int} (r : (yLst yInt).rep K H F v xs) (k : ∀ p H', H p = none → Chg [] H H' → (yLst yInt).rep K H' [p] (.ref p) (Mi.sortI xs) → Q (.ref p) H') : rSortedI K [v] H Q := by
 obtain ⟨p, rfl, s⟩ := ints_sqL r
 refine ⟨p, xs, rfl, s, fun ns q pm so nq => ?_⟩
 rw [sorted_unique (pm.trans (sortI_perm xs).symm) so (sortI_sorted xs)]
 exact k q _ nq (Chg.lay nq trivial) ⟨q, _, rfl, rfl, upd_same, ints_mk _⟩
def ySet (w : World) : Ty (List Int) where
 rep K H F v xs := ∃ a, v = .ref a ∧ F = [a] ∧ H a = some (SetO w a (fun i => xs.contains i) xs.length)
 keep {K H H' F v xs} h k := by
   obtain ⟨a, e, rfl, g⟩ := h
   exact ⟨a, e, rfl, k a _ g (.inl (List.mem_singleton.mpr rfl))⟩
 dom {K H F v xs} h b m := by
   obtain ⟨a, e, rfl, g⟩ := h
   rw [List.mem_singleton] at m; subst m
   exact ⟨_, g, fun z => z⟩
theorem set_nc {w : World} {H H' : Hp} {a : Addr} {S : Int → Bool} {n : Nat} : NCo H H' a (SetO w a S n) := fun h ob r e v z => by
 obtain ⟨o, es, ep, t, ho, _, hd, _⟩ := r
 rw [e] at ho; cases ho
 rw [z] at hd; cases hd
theorem cl_set0 {X : Cx} {w : World} (e : X.w = w := by rfl) : CallR X (.type "set") (rSet0 w) := by subst e; exact cr_set0
theorem w_set0 {w : World} (k : ∀ p H', H p = none → Chg [] H H' → (ySet w).rep K H' [p] (.ref p) [] → Q (.ref p) H') : rSet0 w [] H Q := ⟨rfl, fun p np => k p _ np (Chg.new' np set_nc) ⟨p, rfl, rfl, upd_same⟩⟩
theorem op_in_s {X : Cx} {w : World} (e : X.w = w := by rfl) : OpR X (compareOp .In) (rSIn w) := by subst e; exact or_sin
theorem w_inS {w : World} {xs : List Int} (r : (ySet w).rep K H F v xs) (k : Q (.bl (xs.contains i)) H) : rSIn w (.int i) v H Q := by
 obtain ⟨p, rfl, rfl, g⟩ := r
 exact ⟨i, p, _, _, rfl, rfl, g, k⟩
theorem val_inS {w : World} {xs : List Int} (r : (ySet w).rep K H F v xs) (ha : Val ta σ H (.int i)) (hb : Val tb σ H v) : Val (tOp (rSIn w) ta tb) σ H (.bl (xs.contains i)) := val_op ha hb fun Q q => w_inS r q
theorem w_sadd {w : World} {to : TE} {ts : TA} (h : to σ H fun x H1 => (∃ a S n, x = V.ref a ∧ H1 a = some (SetO w a S n)) ∧ ts σ H1 fun xs H2 => rSAdd w x xs H2 Q) : tSAdd w to ts σ H Q := h
theorem tyv_set {w : World} {xs : List Int} (r : (ySet w).rep K H F v xs) : ∃ a S n, v = V.ref a ∧ H a = some (SetO w a S n) := by
 obtain ⟨p, rfl, rfl, g⟩ := r
 exact ⟨p, _, _, rfl, g⟩
theorem m_sadd {w : World} {xs ys : List Int} (r : (ySet w).rep K H F v xs) (hm : Mi.sadd xs i = some ys) (k : ∀ H', Chg F H H' → (ySet w).rep K H' F v ys → Q .non H') : rSAdd w v [.int i] H Q := by
 obtain ⟨p, rfl, rfl, g⟩ := r
 unfold Mi.sadd at hm
 split at hm
 · rename_i hz
   obtain rfl := Option.some.inj hm
   refine ⟨p, i, _, _, rfl, rfl, g, by show xs.length + 1 < 4096; omega, ?_⟩
   refine k _ (Chg.wr g (fun z => z) (hn := set_nc)) ⟨p, rfl, rfl, ?_⟩
   rw [upd_same]
   congr 1
   by_cases hc : xs.contains i = true
   · have e1 : (fun j => xs.contains j || decide (j = i)) = fun j => xs.contains j := by
       funext j
       by_cases hj : j = i
       · subst hj; rw [hc]; rfl
       · rw [decide_eq_false hj, Bool.or_false]
     rw [if_pos hc, if_pos hc]
     show SetO w p (fun j => xs.contains j || decide (j = i)) _ = _
     rw [e1]
   · rw [if_neg hc, if_neg hc]
     have e1 : (fun j => xs.contains j || decide (j = i)) = fun j => (xs ++ [i]).contains j := by
       funext j
       rw [List.contains_eq_mem, List.contains_eq_mem]
       by_cases hj : j = i
       · subst hj; simp
       · simp [hj]
     show SetO w p (fun j => xs.contains j || decide (j = i)) _ = _
     rw [e1, List.length_append]
     rfl
 · cases hm
end
end G
namespace G
open PySem PySem.Spec PyProof.Rows L2
def Sub (F G : List Addr) : Prop := ∀ b ∈ F, b ∈ G
def yLsg {α : Type} (τ : Ty α) : Ty (List α) where
 rep K H F v xs := ∃ a vs G, v = .ref a ∧ F = a :: G ∧ a ∉ G ∧ H a = some (.lst vs) ∧ (∀ b ∈ G, ∃ o, H b = some o ∧ ¬ Froz o) ∧ Paired (fun u x => ∃ Fi, τ.rep K H Fi u x ∧ Sub Fi G) vs xs
 keep {K H H' F v xs} h k := by
   obtain ⟨a, vs, G, e, rfl, na, g, dm, r⟩ := h
   refine ⟨a, vs, G, e, rfl, na, k a _ g (.inl (List.mem_cons_self ..)), fun b hb => ?_, Paired.mapP r fun u x q => ?_⟩
   · obtain ⟨o, ho, hf⟩ := dm b hb
     exact ⟨o, k b o ho (.inl (List.mem_cons_of_mem _ hb)), hf⟩
   · obtain ⟨Fi, ru, sb⟩ := q
     exact ⟨Fi, τ.keep ru fun b o hb z => k b o hb (z.imp (fun y => List.mem_cons_of_mem _ (sb b y)) id), sb⟩
 dom {K H F v xs} h b m := by
   obtain ⟨a, vs, G, e, rfl, na, g, dm, r⟩ := h
   rcases List.mem_cons.mp m with rfl | m
   · exact ⟨_, g, fun z => z⟩
   · exact dm b m
section
variable {K : PySem.W.Frag} {σ σ' : L2.St} {H : Hp} {F F1 F2 Fu : List Addr} {ta tb te : TE} {v u x y : V} {i j : Int} {t tu tt : TT} {b c a : Bool} {α β : Type} {τ : Ty α} {υ : Ty β} {Q : VK} {D : Ends} {t1 t2 : TS} {g : TG} {ws : List Nat}
theorem lsg_sq {xs : List α} (r : (yLsg τ).rep K H F v xs) : ∃ a vs, v = .ref a ∧ a ∈ F ∧ SqL K H a vs ∧ Paired (fun u x => ∃ Fi, τ.rep K H Fi u x ∧ Sub Fi F ∧ a ∉ Fi) vs xs := by
 obtain ⟨a, vs, G, e, rfl, na, g, dm, q⟩ := r
 exact ⟨a, vs, e, List.mem_cons_self .., .inl (.inl g), Paired.mapP q fun u x z => by
   obtain ⟨Fi, ru, sb⟩ := z
   exact ⟨Fi, ru, fun b hb => List.mem_cons_of_mem _ (sb b hb), fun hb => na (sb a hb)⟩⟩
theorem e_lsg {vs : List V} {xs : List α} {G : List Addr} (z : vs.length ≤ Mi.big) (dm : ∀ b ∈ G, ∃ o, H b = some o ∧ ¬ Froz o) (r : Paired (fun u x => ∃ Fi, τ.rep K H Fi u x ∧ Sub Fi G) vs xs)
   (k : ∀ p H', H p = none → Chg [] H H' → (yLsg τ).rep K H' (p :: G) (.ref p) xs → Q (.ref p) H') : LstG vs H Q := by
 refine ⟨sz z, fun p np => k p _ np (Chg.lay np trivial) ⟨p, vs, G, rfl, rfl, fun hp => ?_, upd_same, fun b hb => ?_, Paired.mapP r fun u x q => ?_⟩⟩
 · obtain ⟨o, ho, _⟩ := dm p hp
   rw [np] at ho; cases ho
 · obtain ⟨o, ho, hf⟩ := dm b hb
   exact ⟨o, by rw [upd_ne (ne_of_none ho np)]; exact ho, hf⟩
 · obtain ⟨Fi, ru, sb⟩ := q
   exact ⟨Fi, Ty.ex ru (Chg.lay np trivial), sb⟩
theorem Ty.dm {d : α} (r : τ.rep K H F v d) : ∀ b ∈ F, ∃ o, H b = some o ∧ ¬ Froz o := τ.dom r
theorem dm_app (d1 : ∀ b ∈ F1, ∃ o, H b = some o ∧ ¬ Froz o) (d2 : ∀ b ∈ F2, ∃ o, H b = some o ∧ ¬ Froz o) : ∀ b ∈ F1 ++ F2, ∃ o, H b = some o ∧ ¬ Froz o := fun b h => (List.mem_append.mp h).elim (d1 b) (d2 b)
theorem fresh_cons {H0 : Hp} {p : Addr} (n1 : H0 p = none) (n2 : ∀ a ∈ F, H0 a = none) : ∀ a ∈ p :: F, H0 a = none := fun b hb => by
 rcases List.mem_cons.mp hb with rfl | hb
 · exact n1
 · exact n2 b hb
theorem Dj.consR {p : Addr} (d1 : Dj F [p]) (d2 : Dj F F2) : Dj F (p :: F2) := fun b hb z => by
 rcases List.mem_cons.mp z with rfl | z
 · exact d1 b hb (List.mem_singleton.mpr rfl)
 · exact d2 b hb z
theorem l_lsg {g : TG} {tb : TS} {nx : L2.St → Hp → Prop} {xs : List α} (r : (yLsg τ).rep K H F v xs) (Pv : Nat → L2.St → Hp → Prop) (h0 : Pv 0 σ H) (hl : ∀ i σ' H', Pv i σ' H' → (yLsg τ).rep K H' F v xs)
   (hs : ∀ (i : Nat) (x : α) (u : V) (Fi : List Addr) σ' H', xs[i]? = some x → τ.rep K H' Fi u x → Sub Fi F → Pv i σ' H' → g u σ' H' fun σ2 H2 => tb { D with nx := Pv (i + 1), ct := Pv (i + 1), bk := nx } σ2 H2) (hd : ∀ σ' H', Pv xs.length σ' H' → nx σ' H') :
   ∃ a, v = .ref a ∧ (∃ xs, SqL K H a xs) ∧ LoopG (Itl K a) g tb D nx σ H := by
 obtain ⟨a, vs, e, _, s, q⟩ := lsg_sq r
 refine ⟨a, e, ⟨vs, s⟩, fun i m σ' H' => m = xs.length - i ∧ i ≤ xs.length ∧ Pv i σ' H', ⟨xs.length, by omega, Nat.zero_le _, h0⟩, ?_⟩
 rintro i m σ' H' ⟨rfl, hi, p⟩
 obtain ⟨a', vs', e', _, s', q'⟩ := lsg_sq (hl i σ' H' p)
 obtain rfl : a = a' := by rw [e] at e'; exact V.ref.inj e'
 by_cases hlt : i < xs.length
 · obtain ⟨u, hu, Fi, ru, sb, _⟩ := pr_get q' (List.getElem?_eq_getElem hlt)
   refine .inr ⟨⟨vs', u, s', hu⟩, Pv (i + 1), fun σ2 H2 p' => ⟨xs.length - (i + 1), by omega, rfl, hlt, p'⟩, fun x H2 y => ?_⟩
   obtain ⟨rfl, y⟩ := y
   obtain rfl : x = u := Option.some.inj ((y _ s').symm.trans hu)
   exact hs i _ _ Fi σ' _ (List.getElem?_eq_getElem hlt) ru sb p
 · obtain rfl : i = xs.length := by omega
   exact .inl ⟨⟨vs', s', by rw [pr_len q']; exact Nat.le_refl _⟩, hd σ' H' p⟩
end
structure Dat {α : Type} (τ : Ty α) (n : Nat) where
 f : α → PyData
 dec : DecidableEq α
 dp : ∀ {K : PySem.W.Frag} {H : Hp} {F : List Addr} {v : V} {d : α}, τ.rep K H F v d → Dp K H v (f d)
 lay : ∀ d, (f d).canLay0 = true
 dpt : ∀ d, (f d).depth ≤ n
 eqv : ∀ d e, PyData.eqv (f d) (f e) = decide (d = e)
theorem beq_dec {α : Type} [DecidableEq α] [BEq α] [LawfulBEq α] (a b : α) : (a == b) = decide (a = b) := by
 by_cases h : a = b
 · subst h; simp
 · rw [decide_eq_false h]; simpa using h
def dat_int : Dat yInt 0 where
 f := .int
 dec := inferInstance
 dp := fun h => by obtain ⟨_, rfl⟩ := h; exact .int _
 lay := fun d => by simp [PyData.canLay0]
 dpt := fun d => by simp [PyData.depth]
 eqv := fun d e => by simp only [PyData.eqv]; exact beq_dec d e
section
variable {α β : Type} {τ : Ty α} {n m : Nat}
theorem dpAll {K : PySem.W.Frag} {H : Hp} {R : V → α → Prop} {f : α → PyData} (h : ∀ u x, R u x → Dp K H u (f x)) : ∀ {vs : List V} {xs : List α}, Paired R vs xs → DpAll K H vs (xs.map f)
 | _, _, .nil => .nil
 | _, _, .cons r t => .cons (h _ _ r) (dpAll h t)
theorem layAll {f : α → PyData} (h : ∀ d, (f d).canLay0 = true) : ∀ xs : List α, PyData.canLayAll0 (xs.map f) = true
 | [] => by simp [PyData.canLayAll0]
 | x :: xs => by simp [PyData.canLayAll0, h x, layAll h xs]
theorem dptAll {f : α → PyData} (h : ∀ d, (f d).depth ≤ n) : ∀ xs : List α, PyData.depthAll (xs.map f) ≤ n
 | [] => by simp [PyData.depthAll]
 | x :: xs => by
   simp only [List.map_cons, PyData.depthAll]
   exact Nat.max_le.mpr ⟨h x, dptAll h xs⟩
theorem eqvAllL [DecidableEq α] {f : α → PyData} (h : ∀ d e, PyData.eqv (f d) (f e) = decide (d = e)) : ∀ xs ys : List α, PyData.eqvAll (xs.map f) (ys.map f) = decide (xs = ys)
 | [], [] => by simp [PyData.eqvAll]
 | [], y :: ys => by simp [PyData.eqvAll]
 | x :: xs, [] => by simp [PyData.eqvAll]
 | x :: xs, y :: ys => by
   simp only [List.map_cons, PyData.eqvAll, h x y, eqvAllL h xs ys]
   by_cases h1 : x = y
   · by_cases h2 : xs = ys
     · simp [h1, h2]
     · simp [h2]
   · simp [h1]
def dat_lst (d : Dat τ n) : Dat (yLst τ) (n + 1) where
 f := fun xs => .list (xs.map d.f)
 dec := @instDecidableEqList _ d.dec
 dp := fun h => by
   obtain ⟨a, vs, rfl, s, q⟩ := lst_sq h
   exact .lst s (dpAll (fun u x z => d.dp z) q)
 lay := fun xs => by simp only [PyData.canLay0]; exact layAll d.lay xs
 dpt := fun xs => by simp only [PyData.depth]; exact Nat.succ_le_succ (dptAll d.dpt xs)
 eqv := fun xs ys => by simp only [PyData.eqv]; exact @eqvAllL _ d.dec _ d.eqv xs ys
end
structure Sat {α : Type} (ts : Tys α) (n : Nat) where
 f : α → List PyData
 dec : DecidableEq α
 dp : ∀ {K : PySem.W.Frag} {H : Hp} {F : List Addr} {vs : List V} {d : α}, ts.rep K H F vs d → DpAll K H vs (f d)
 lay : ∀ d, PyData.canLayAll0 (f d) = true
 dpt : ∀ d, PyData.depthAll (f d) ≤ n
 eqv : ∀ d e, PyData.eqvAll (f d) (f e) = decide (d = e)
section
variable {α β : Type} {τ : Ty α} {ts : Tys β} {n m : Nat}
def sat_one (d : Dat τ n) : Sat (sOne τ) n where
 f := fun x => [d.f x]
 dec := d.dec
 dp := fun h => by obtain ⟨v, rfl, r⟩ := h; exact .cons (d.dp r) .nil
 lay := fun x => by simp [PyData.canLayAll0, d.lay x]
 dpt := fun x => by simp only [PyData.depthAll]; exact Nat.max_le.mpr ⟨d.dpt x, Nat.zero_le _⟩
 eqv := fun x y => by simp [PyData.eqvAll, d.eqv x y]
def sat_cons (d : Dat τ n) (s : Sat ts m) : Sat (sCons τ ts) (max n m) where
 f := fun x => d.f x.1 :: s.f x.2
 dec := @instDecidableEqProd _ _ d.dec s.dec
 dp := fun h => by obtain ⟨v, ws, F1, F2, rfl, _, r, q⟩ := h; exact .cons (d.dp r) (s.dp q)
 lay := fun x => by simp [PyData.canLayAll0, d.lay x.1, s.lay x.2]
 dpt := fun x => by
   simp only [PyData.depthAll]
   have h1 := d.dpt x.1
   have h2 := s.dpt x.2
   omega
 eqv := fun x y => by
   obtain ⟨x1, x2⟩ := x
   obtain ⟨y1, y2⟩ := y
   letI := d.dec
   letI := s.dec
   simp only [PyData.eqvAll, d.eqv x1 y1, s.eqv x2 y2]
   by_cases h1 : x1 = y1
   · by_cases h2 : x2 = y2
     · subst h1 h2; simp
     · have : ¬ ((x1, x2) = (y1, y2)) := fun e => h2 (Prod.mk.inj e).2
       simp only [h2, decide_false, Bool.and_false]
       exact (decide_eq_false this).symm
   · have : ¬ ((x1, x2) = (y1, y2)) := fun e => h1 (Prod.mk.inj e).1
     simp only [h1, decide_false, Bool.false_and]
     exact (decide_eq_false this).symm
def dat_tup (s : Sat ts m) : Dat (yTup ts) (m + 1) where
 f := fun x => .tuple (s.f x)
 dec := s.dec
 dp := fun h => by obtain ⟨a, vs, rfl, sq, q⟩ := h; exact .tup sq (s.dp q)
 lay := fun x => by simp only [PyData.canLay0]; exact s.lay x
 dpt := fun x => by simp only [PyData.depth]; exact Nat.succ_le_succ (s.dpt x)
 eqv := fun x y => by simp only [PyData.eqv]; exact s.eqv x y
end
section
variable {X : Cx} {K : PySem.W.Frag} {H : Hp} {F1 F2 : List Addr} {v u : V} {α : Type} {τ : Ty α} {Q : VK} {n : Nat} {x y : α}
theorem op_ne_d {K : PySem.W.Frag} (hu : X.A.units + 64 < cLine) (e : X.K = K := by rfl) : OpR X (compareOp .NotEq) (rNeD K) := by subst e; exact op_neD hu
theorem Dat.shaped (d : Dat τ n) (hn : n ≤ 64) (x : α) : SeqAt.shaped (d.f x) = true := by
 unfold SeqAt.shaped
 rw [d.lay x, decide_eq_true (Nat.le_trans (d.dpt x) hn)]
 rfl
theorem w_neD [i : DecidableEq α] (d : Dat τ n) (r : τ.rep K H F1 v x) (q : τ.rep K H F2 u y) (k : Q (.bl (!decide (x = y))) H) (hn : n ≤ 64 := by decide) : rNeD K v u H Q :=
 ⟨_, _, d.dp r, d.dp q, d.shaped hn x, d.shaped hn y, by
   have e : @decide (x = y) (d.dec x y) = @decide (x = y) (i x y) := by congr
   rw [d.eqv, e]; exact k⟩
end
end G
namespace G
open PySem PySem.Spec PyProof.Rows L2
section
variable {K : PySem.W.Frag} {σ σ' : L2.St} {H : Hp} {F F1 F2 Fu : List Addr} {ta tb te : TE} {v u x y : V} {i j : Int} {α β : Type} {τ : Ty α} {υ : Ty β} {Q : VK} {D : Ends} {t1 t2 : TS} {g : TG} {ws : List Nat}
end
end G
namespace G
end G
namespace PySem
open Sem (wp)
section
variable {prog : Program} {w : World} {A : Around} {E : Value → Shared → Prop} {s : Shared}
end
end PySem
namespace L2
open PySem PySem.Spec PyProof.Rows
end L2
namespace G
open PySem PySem.Spec PyProof.Rows L2
section
variable {K : PySem.W.Frag} {σ σ' : L2.St} {H : Hp} {F F1 F2 Fu : List Addr} {ta tb te : TE} {v u x y : V} {i j : Int} {α β : Type} {τ : Ty α} {υ : Ty β} {Q : VK} {D : Ends} {t1 t2 : TS} {g : TG} {ws : List Nat}
end
end G
namespace G
open PySem PySem.Spec PyProof.Rows L2
section
variable {K : PySem.W.Frag} {σ σ' : L2.St} {H : Hp} {F F1 F2 Fu : List Addr} {ta tb te : TE} {v u x y : V} {i j : Int} {α β : Type} {τ : Ty α} {υ : Ty β} {Q : VK} {D : Ends} {t1 t2 : TS} {g : TG} {ws : List Nat}
theorem st_eq {t : TS} (e : σ = σ') (h : t D σ' H) : t D σ H := e ▸ h
end
end G
namespace G
open PySem PySem.Spec PyProof.Rows L2
theorem pe_fldk {X : Cx} {K : PySem.W.Frag} {e : Expr} {f : Str} {pos : Pos} {ta : TE} (he : PE X e ta) (hb : attributeBase e f X.env (eval e X.env) = eval e X.env) (hk : X.K = K := by rfl) : PE X (.Attribute e f pos) (tFld K ta f) := by
 subst hk; exact pe_fld he hb
end G
namespace G
open PySem PySem.Spec PyProof.Rows L2
theorem toS_len (l : List Nat) : (toS l).length = l.length := by simp [toS, Str.length]
theorem toS_tl (l : List Nat) : (toS l).cps.toList = l := by simp [toS]
theorem toS_inj {a b : List Nat} (h : toS a = toS b) : a = b := by rw [← toS_tl a, h, toS_tl]
section
variable {X : Cx} {K : PySem.W.Frag} {σ σ' : L2.St} {H : Hp} {F F1 F2 Fu : List Addr} {ta tb te to : TE} {v u x y : V} {i j : Int} {α β : Type} {τ : Ty α} {υ : Ty β} {Q : VK} {D : Ends} {g : TG} {ws : List Nat} {a b c : List Nat} {t tu tt : TT}
theorem val_cS {s : Str} (h : s = toS a) : Val (tC (.str s)) σ H (.str (toS a)) := by subst h; exact val_c
theorem val_isiO {n m : String} {b : Bool} {d : Option α} (ty : ∀ {F x}, τ.rep K H F v x → TyX K H v (.type n)) (r : (yOpt τ).rep K H F v d) (ha : Val ta σ H v) (h1 : kitB n m = some b) (h2 : kitB "NoneType" m = some false) : Val (tCB (rIsi K) (tCons ta (tCons (tC (.ty m)) tNil))) σ H (.bl (d.isSome && b)) := by
 cases d with
 | none =>
   obtain ⟨_, rfl⟩ := r
   exact val_isi ha ty_non h2
 | some x =>
   have := val_isi ha (ty r.2) h1
   rw [show ((some x).isSome && b) = b by cases b <;> rfl]
   exact this
theorem tyr_int {x : Int} (r : yInt.rep K H F v x) : TyX K H v (.type "int") := by obtain ⟨_, rfl⟩ := r; exact ty_int
end
structure DatO {α : Type} (τ : Ty α) (n : Nat) where
 f : α → PyData
 ok : α → Bool
 dec : DecidableEq α
 dp : ∀ {K : PySem.W.Frag} {H : Hp} {F : List Addr} {v : V} {d : α}, τ.rep K H F v d → Dp K H v (f d)
 lay : ∀ d, ok d = true → (f d).canLay0 = true
 dpt : ∀ d, (f d).depth ≤ n
 eqv : ∀ d e, PyData.eqv (f d) (f e) = decide (d = e)
def Dat.o {α : Type} {τ : Ty α} {n : Nat} (d : Dat τ n) : DatO τ n := ⟨d.f, fun _ => true, d.dec, d.dp, fun x _ => d.lay x, d.dpt, d.eqv⟩
section
variable {α β : Type} {τ : Ty α} {n m : Nat}
end
section
variable {α β : Type} {τ : Ty α} {ts : Tys β} {n m : Nat}
theorem DatO.shaped (d : DatO τ n) (hn : n ≤ 64) (x : α) (h : d.ok x = true) : SeqAt.shaped (d.f x) = true := by
 unfold SeqAt.shaped
 rw [d.lay x h, decide_eq_true (Nat.le_trans (d.dpt x) hn)]
 rfl
variable {K : PySem.W.Frag} {H : Hp} {F1 F2 : List Addr} {v u : V} {Q : VK} {x y : α}
theorem okB {a b : Bool} {z : Unit} (h : Mi.guardO (a && b) = some z) : a = true ∧ b = true := by
 unfold Mi.guardO at h
 split at h
 · rename_i q; rw [Bool.and_eq_true] at q; exact q
 · cases h
end
end G
namespace G
open PySem PySem.Spec PyProof.Rows L2
inductive Par3 {α : Type} (R : V → List Addr → α → Prop) : List V → List (List Addr) → List α → Prop
 | nil : Par3 R [] [] []
 | cons {u : V} {Fi : List Addr} {x : α} {vs : List V} {Fs : List (List Addr)} {xs : List α} : R u Fi x → Par3 R vs Fs xs → Par3 R (u :: vs) (Fi :: Fs) (x :: xs)
theorem Par3.mapP {α : Type} {R S : V → List Addr → α → Prop} : ∀ {vs Fs} {xs : List α}, Par3 R vs Fs xs → (∀ u Fi x, Fi ∈ Fs → R u Fi x → S u Fi x) → Par3 S vs Fs xs
 | _, _, _, .nil, _ => .nil
 | _, _, _, .cons r t, h => .cons (h _ _ _ (List.mem_cons_self ..) r) (Par3.mapP t fun u Fi x m => h u Fi x (List.mem_cons_of_mem _ m))
theorem Par3.len {α : Type} {R : V → List Addr → α → Prop} : ∀ {vs Fs} {xs : List α}, Par3 R vs Fs xs → vs.length = xs.length ∧ Fs.length = xs.length
 | _, _, _, .nil => ⟨rfl, rfl⟩
 | _, _, _, .cons r t => by
   have := Par3.len t
   simp [this.1, this.2]
theorem Par3.pr {α : Type} {R : V → List Addr → α → Prop} {S : V → α → Prop} : ∀ {vs Fs} {xs : List α}, Par3 R vs Fs xs → (∀ u Fi x, Fi ∈ Fs → R u Fi x → S u x) → Paired S vs xs
 | _, _, _, .nil, _ => .nil
 | _, _, _, .cons r t, h => .cons (h _ _ _ (List.mem_cons_self ..) r) (Par3.pr t fun u Fi x m => h u Fi x (List.mem_cons_of_mem _ m))
theorem Par3.setAt {α : Type} {R S : V → List Addr → α → Prop} : ∀ {vs Fs} {xs : List α} (_ : Par3 R vs Fs xs) {j : Nat} {u : V} {Fi : List Addr} {y : α}, vs[j]? = some u → Fs[j]? = some Fi → S u Fi y → (∀ (k : Nat) u' Fk x, k ≠ j → Fs[k]? = some Fk → R u' Fk x → S u' Fk x) → Par3 S vs Fs (xs.set j y)
 | _, _, _, .nil, j, u, Fi, y, h, _, _, _ => by simp at h
 | _, _, _, .cons r t, 0, u, Fi, y, h1, h2, hs, ho => by
   obtain rfl := Option.some.inj h1
   obtain rfl := Option.some.inj h2
   refine .cons hs (Par3.mapP' t fun k u' Fk x hk hr => ho (k + 1) u' Fk x (by omega) hk hr)
 | _, _, _, .cons (u := u0) (Fi := F0) r t, j + 1, u, Fi, y, h1, h2, hs, ho => .cons (ho 0 _ _ _ (by omega) rfl r) (Par3.setAt t (j := j) h1 h2 hs fun k u' Fk x hk hf hr => ho (k + 1) u' Fk x (by omega) hf hr)
where
 Par3.mapP' {α : Type} {R S : V → List Addr → α → Prop} : ∀ {vs Fs} {xs : List α}, Par3 R vs Fs xs → (∀ (k : Nat) u Fk x, Fs[k]? = some Fk → R u Fk x → S u Fk x) → Par3 S vs Fs xs
 | _, _, _, .nil, _ => .nil
 | _, _, _, .cons r t, h => .cons (h 0 _ _ _ rfl r) (Par3.mapP' t fun k u Fk x hk => h (k + 1) u Fk x hk)
section
variable {K : PySem.W.Frag} {σ σ' : L2.St} {H : Hp} {F F1 F2 Fu : List Addr} {ta tb te : TE} {v u x y : V} {i j : Int} {α β : Type} {τ : Ty α} {υ : Ty β} {Q : VK}
end
end G
namespace L2
open PySem PySem.Spec PyProof.Rows
section
variable {P : Program} {w : World} {A : Around} {E : Value → Shared → Prop} {s : Shared} {a : Addr} {L : List (Addr × List Int)} {es : Array (Int × Value)} {ep : Nat} {t : SetTable}
structure SetB (P : Program) (w : World) (h : Heap) (a : Addr) (L : List (Addr × List Int)) (es : Array (Int × Value)) (ep : Nat) (t : SetTable) : Prop where
 obj : ∃ o, h.get? a = some o ∧ o.ExactSet ∧ o.data = .set es ep t
 rws : es.toList = rowsOf P w L
 tb : TabOk t (L.map fun p => thash P w p.2)
 ndp : (L.map (·.2)).Nodup
 tps : ∀ p ∈ L, IsT P w h p.2 p.1
 pln : t.plain = true
 ld : w.params.followText "set-order" = true ∨ t.led = true
 rm : L.length * 5 < t.mask * 3
theorem SetB.of {h : Heap} (R : SetTR P w h a L es ep t) : SetB P w h a L es ep t := ⟨R.ob, R.rows, R.tab, R.nd, R.tup, R.plain, R.led, R.room⟩
theorem SetB.sz {h : Heap} (R : SetB P w h a L es ep t) : es.size = L.length := by
 have z := congrArg List.length R.rws
 simpa [rowsOf] using z
end
end L2
namespace L2
open PySem PySem.Spec PyProof.Rows
structure SetB0 (P : Program) (w : World) (h : Heap) (a : Addr) (L : List (Addr × List Int)) : Prop where
 has : ∃ (es : Array (Int × Value)) (ep : Nat) (t : SetTable), (∃ o, h.get? a = some o ∧ o.ExactSet ∧ o.data = .set es ep t) ∧ es.toList = rowsOf P w L ∧ TabOk t (L.map fun p => thash P w p.2) ∧ (L.map (·.2)).Nodup ∧ t.plain = true ∧
   (w.params.followText "set-order" = true ∨ t.led = true) ∧ L.length * 5 < t.mask * 3
section
variable {P : Program} {w : World} {h : Heap} {a : Addr} {L : List (Addr × List Int)} {es : Array (Int × Value)} {ep : Nat} {t : SetTable}
theorem SetB.bare (R : SetB P w h a L es ep t) : SetB0 P w h a L := ⟨es, ep, t, R.obj, R.rws, R.tb, R.ndp, R.pln, R.ld, R.rm⟩
end
section
variable {X : Cx}
variable {o e : Expr} {es : List Expr} {to : TE} {t : TA} {apos cpos : Pos}
end
end L2
namespace L2
open PySem PySem.Spec PyProof.Rows
section
variable {X : Cx} {pins : List (Addr × Obj)} {σ : St} {H : Hp} {s : Shared}
end
end L2
namespace G
open PySem PySem.Spec PyProof.Rows L2
section
variable {X : Cx} {P : Program} {w : World} {K : PySem.W.Frag} {σ σ' : L2.St} {H : Hp} {F F1 F2 Fu : List Addr} {ta tb te to : TE} {v u x y : V} {i j : Int} {Q : VK}
end
end G
namespace G
open PySem PySem.Spec PyProof.Rows L2
end G
namespace G
open PySem PySem.Spec PyProof.Rows L2
section
variable {K : PySem.W.Frag} {σ σ' : L2.St} {H : Hp} {F F1 F2 Fu : List Addr} {ta tb tc te : TE} {tA : TT} {v u x y : V} {i j k : Int} {α β : Type} {τ : Ty α} {υ : Ty β} {Q : VK} {c : Bool}
end
end G
namespace G
open PySem PySem.Spec PyProof.Rows L2
section
variable {X : Cx} {K : PySem.W.Frag} {σ σ' : L2.St} {H : Hp} {F F1 F2 Fu : List Addr} {ta tb te : TE} {v u x y : V} {Q : VK} {b c : Bool}
def rIsB : R2 := fun x y H Q => ∃ a b, x = .bl a ∧ y = .bl b ∧ Q (.bl (decide (a = b))) H
theorem op_isB : OpR X (compareOp .Is) rIsB := op_is_bl
theorem w_isB (k : Q (.bl (decide (b = c))) H) : rIsB (.bl b) (.bl c) H Q := ⟨b, c, rfl, rfl, k⟩
theorem val_isB (ha : Val ta σ H (.bl b)) (hb : Val tb σ H (.bl c)) : Val (tOp rIsB ta tb) σ H (.bl (decide (b = c))) := val_op ha hb fun Q q => w_isB q
end
end G
namespace G
open PySem PySem.Spec PyProof.Rows L2
section
variable {K : PySem.W.Frag} {σ σ' : L2.St} {H : Hp} {F F1 F2 Fu G : List Addr} {ta tb te : TE} {v u x y : V} {i j : Int} {α β : Type} {τ : Ty α} {υ : Ty β} {ts : Tys α} {Q : VK} {D : Ends} {nx : L2.St → Hp → Prop}
end
end G
namespace L2
open PySem PySem.Spec PyProof.Rows
section
variable {prog : Program} {w : World} {A : Around} {E : Value → Shared → Prop} {s : Shared}
theorem collect_tupleA {l : Addr} {vs : List Value} {Q : List Value → Shared → Prop} (hl : s.heap.IsTuple l vs.toArray) (hsz : vs.length ≤ sizeLine)
   (h : Q vs { s with heap := (s.heap.push (seqObj "list" #[] 0)).update s.heap.objs.size (Obj.mapSeq (· ++ vs.toArray)) }) :
   wpAny (model prog w) A (collect (.ref l)) Q E s := by
 obtain ⟨o, ho, hc, n, hd⟩ := id hl
 unfold collect
 refine wpAny_bind (wpAny_runValue (codeAny_builtin entry_proto_collect' ?_))
 show wpAny _ _ (do again (.builtin "list.__iadd__" ⟨[← newList [], .ref l], []⟩)) _ _ s
 refine wpAny_bind (wpAny_newList (wpAny_pure ⟨Code.quiet_builtin _ (by decide +kernel), codeAny_builtin entry_list_iadd' ?_⟩))
 show wpAny _ _ (Builtin.List.listExtendWith (.ref s.heap.objs.size) (.ref l) (.ref s.heap.objs.size)) _ _ { s with heap := s.heap.push (seqObj "list" #[] 0) }
 unfold Builtin.List.listExtendWith
 have ho' : (s.heap.push (seqObj "list" #[] 0)).get? l = some o := Heap.get?_push_of_some _ ho
 refine wpAny_bind (wpAny_typeOf (T := "tuple") ⟨o, ho', hc⟩ ?_)
 have ht : (Value.type "tuple" == Value.type "tuple") = true := by rfl
 rw [if_pos (by rw [ht]; simp)]
 refine wpAny_bind (listItems_at ho' hd ?_)
 refine wpAny_bind (listItems_at (xs := #[]) (n := 0) (Heap.get?_push_size _ rfl) rfl ?_)
 rw [if_neg (by simp)]
 refine wpAny_bind (listUpdate_at (xs := #[]) (n := 0) (Heap.get?_push_size _ rfl) rfl ?_ (Nat.zero_le _) (by show (#[] ++ vs.toArray).size ≤ sizeLine + 1; simp only [Array.size_append, List.size_toArray, List.length_nil]; omega))
 refine wpAny_pure ?_
 show wpAny (model prog w) A (do
     let o ← load s.heap.objs.size
     match o.data with
     | .seq xs _ => pure xs.toList
     | _ => unsupported "internal:collect") Q E { s with heap := (s.heap.push (seqObj "list" #[] 0)).update s.heap.objs.size (Obj.mapSeq (· ++ vs.toArray)) }
 refine wpAny_bind (wpAny_load (get?_update_seq (Heap.get?_push_size _ rfl) _) ?_)
 show wpAny _ _ (pure ((#[] : Array Value) ++ vs.toArray).toList) Q E _
 rw [show ((#[] : Array Value) ++ vs.toArray).toList = vs by simp]
 exact wpAny_pure h
theorem sorted_ordT {l : Addr} {vs : List Value} {ltv : Value → Value → Bool} {Q : Value → Shared → Prop} (O : SrtO.Swo ltv) (hl : s.heap.IsTuple l vs.toArray) (hz : vs.length ≤ sizeLine)
   (hS : 2 ≤ vs.length → ∀ (h₁ : Heap) (a : Addr), h₁.get? a = some (seqObj "list" vs.toArray 0) → (∀ b o, s.heap.get? b = some o → b ≠ a ∧ h₁.get? b = some o) → SrtO.SortableO prog w A.in1.in1 { s with heap := h₁ } a vs ltv)
   (h : ∀ out : List Value, SrtO.Srtd ltv out → SrtO.Stb ltv out vs → Q (.ref (s.heap.objs.size + 1)) { s with heap := sortedAll s.heap vs out.toArray }) :
   wpAny (model prog w) A (call (.builtin "sorted") [.ref l]) Q E s := by
 refine Calls.call_function_entry kind_sorted plain_sorted entry_sorted (args_sorted1 _) ?_
 unfold Builtin.«sorted»
 refine wpAny_bind (m := checkCount "sorted" 1 1 _) (wpAny_pure ?_)
 refine wpAny_bind (collect_tupleA hl hz ?_)
 refine wpAny_bind (wpAny_newList ?_ hz)
 have hsz : ((s.heap.push (seqObj "list" #[] 0)).update s.heap.objs.size (Obj.mapSeq (· ++ vs.toArray))).objs.size = s.heap.objs.size + 1 := by
   rw [Heap.size_update, size_push']
 have hoL : (((s.heap.push (seqObj "list" #[] 0)).update s.heap.objs.size (Obj.mapSeq (· ++ vs.toArray))).push (seqObj "list" vs.toArray 0)).get? (s.heap.objs.size + 1) = some (seqObj "list" vs.toArray 0) := by
   rw [← hsz]; exact Heap.get?_push_size _ rfl
 have keep : ∀ b o, s.heap.get? b = some o → b ≠ s.heap.objs.size + 1 ∧ (((s.heap.push (seqObj "list" #[] 0)).update s.heap.objs.size (Obj.mapSeq (· ++ vs.toArray))).push (seqObj "list" vs.toArray 0)).get? b = some o := fun b o q => by
   have hlt : b < s.heap.objs.size := Heap.lt_size q
   refine ⟨Nat.ne_of_lt (Nat.lt_succ_of_lt hlt), Heap.get?_push_of_some _ ?_⟩
   rw [Heap.get?_update_ne _ _ _ _ (Nat.ne_of_lt hlt)]
   exact Heap.get?_push_of_some _ q
 show wpAny _ _ _ _ _ { s with heap := ((s.heap.push (seqObj "list" #[] 0)).update s.heap.objs.size (Obj.mapSeq (· ++ vs.toArray))).push (seqObj "list" vs.toArray 0) }
 rw [hsz]
 refine wpAny_bind (wpAny_holding (wpAny_call_entry slot_list_sort ⟨_, hoL, rfl⟩ entry_list_sort (SrtO.list_sort_ord O hoL hz (fun h2 => hS h2 _ _ hoL keep) fun out hs hb => ⟨_, rfl, ?_⟩) (args_list_sort _)))
 exact wpAny_pure ⟨_, rfl, h out hs hb⟩
end
section
variable {X : Cx}
def rSortedIT (K : PySem.W.Frag) : List V → Hp → VK → Prop := fun vs H Q => ∃ (a : Addr) (ns : List Int), vs = [V.ref a] ∧ SqT K H a (ns.map V.int) ∧
 ∀ (ns' : List Int) (p : Addr), ns'.Perm ns → ns'.Pairwise (· ≤ ·) → H p = none → Q (.ref p) (upd H p (.lst (ns'.map V.int)))
theorem cr_sortedIT : CallR X (.builtin "sorted") (rSortedIT X.K) := by
 intro pins s σ H vs us Q I r h
 obtain ⟨a, ns, rfl, hs, q⟩ := h
 obtain ⟨its, rv, hl, hz⟩ := I.tuple hs
 rw [Vals.ref1 r]
 have hi := rv.ints
 refine sorted_ordT SrtO.swo_int hl (by rw [← rv.length]; exact hz) (fun h2 h₁ a' _ _ => SrtO.ints_sortable hi h2) fun out h1 h2 => ?_
 obtain ⟨k1, k2, k3⟩ := SrtO.ints_out hi h1 h2
 obtain ⟨ep, he'⟩ := PyProof.Rows.sortedAll_at s.heap its out.toArray
 have hlen : ((out.map SrtO.iv).map V.int).length ≤ sizeLine := by
   rw [List.length_map, k2.length_eq]
   rw [List.length_map] at hz
   exact hz
 exact ⟨.ref _, upd H (s.heap.objs.size + 1) (.lst ((out.map SrtO.iv).map V.int)), I.laid (t' := s.toks) (fun _ _ => PyProof.Rows.sortedAll_old) (Nat.le_succ _) ⟨hlen, out, ep, vals_of_ints k1, he'⟩, rfl, q _ _ k2 k3 (I.hok.fresh (Nat.le_succ _))⟩
end
end L2
namespace Mi
end Mi
namespace G
open PySem PySem.Spec PyProof.Rows L2
section
variable {X : Cx} {K : PySem.W.Frag} {σ σ' : L2.St} {H : Hp} {F : List Addr} {v : V} {Q : VK} {m : Int}
theorem cl_sortedT {K : PySem.W.Frag} (e : X.K = K := by rfl) : CallR X (.builtin "sorted") (rSortedIT K) := by subst e; exact cr_sortedIT
theorem w_sortedT {xs : List Int} (r : (yTupL yInt).rep K H F v xs) (k : ∀ p H', H p = none → Chg [] H H' → (yLst yInt).rep K H' [p] (.ref p) (Mi.sortI xs) → Q (.ref p) H') : rSortedIT K [v] H Q := by
 obtain ⟨p, rfl, s⟩ := ints_sqT r
 refine ⟨p, xs, rfl, s, fun ns q pm so nq => ?_⟩
 rw [sorted_unique (pm.trans (sortI_perm xs).symm) so (sortI_sorted xs)]
 exact k q _ nq (Chg.lay nq trivial) ⟨q, _, rfl, rfl, upd_same, ints_mk _⟩
end
def permG (ix : List Nat) {α : Type} (us mv ws : List α) : List α := ix.filterMap fun i => (us ++ (mv ++ ws))[i]?
theorem vals_at {vs : List V} {us : List Value} (r : Vals vs us) (i : Nat) : (vs[i]? = none ∧ us[i]? = none) ∨ ∃ v u, vs[i]? = some v ∧ us[i]? = some u ∧ RelV v u := by
 induction r generalizing i with
 | nil => exact .inl ⟨rfl, rfl⟩
 | cons h t ih =>
   cases i with
   | zero => exact .inr ⟨_, _, rfl, rfl, h⟩
   | succ i => exact ih i
theorem vals_app {vs zs : List V} {us ws : List Value} (r : Vals vs us) (q : Vals zs ws) : Vals (vs ++ zs) (us ++ ws) := by
 induction r with
 | nil => exact q
 | cons h t ih => exact .cons h ih
theorem permG_rel (ix : List Nat) {vs mz zs : List V} {us mv ws : List Value} (r1 : Vals vs us) (r2 : Vals mz mv) (r3 : Vals zs ws) : Vals (permG ix vs mz zs) (permG ix us mv ws) := by
 have r := vals_app r1 (vals_app r2 r3)
 unfold permG
 induction ix with
 | nil => exact .nil
 | cons i ix ih =>
   rcases vals_at r i with ⟨e1, e2⟩ | ⟨v, u, e1, e2, h⟩
   · rw [List.filterMap_cons_none e1, List.filterMap_cons_none e2]; exact ih
   · rw [List.filterMap_cons_some e1, List.filterMap_cons_some e2]; exact .cons h ih
end G
namespace G
open PySem PySem.Spec PyProof.Rows L2
section
variable {X : Cx} {P : Program} {w : World} {K : PySem.W.Frag} {σ σ' : L2.St} {H : Hp} {F F1 F2 Fu : List Addr} {ta tb te to : TE} {v u x y : V} {i j : Int} {Q : VK} {α : Type} {τ : Ty α} {n : Nat}
theorem opt_n : (yOpt τ).rep K H [] .non (none : Option α) := ⟨rfl, rfl⟩
theorem opt_i {d : α} (nn : v ≠ .non) (r : τ.rep K H F v d) : (yOpt τ).rep K H F v (some d) := ⟨nn, r⟩
theorem Ty.freshOr {G Fp : List Addr} {d : α} (r : τ.rep K H F v d) (np : ∀ a ∈ G, H a = none ∨ a ∈ Fp) (dj : Dj F Fp) : Dj F G := fun a h z => by
 rcases np a z with e | e
 · obtain ⟨o, e2, _⟩ := τ.dom r a h
   rw [e] at e2; cases e2
 · exact dj a h e
end
theorem okD {P : Program} {w : World} {K : PySem.W.Frag} {mg : Str → Option Value} {base : Heap} {x qual : Str} {params : Arguments} {body : List Stmt} {scope : Scope} {dvs : List V} {kws : List (Str × V)} {f : Addr} {fd : FuncData} {N ps : List Str} {k : Nat} {sp : Sp} (F : FunD K x qual params body scope dvs kws f fd) (S : FnScope N ps scope) (len : ∀ vs H Q E, sp vs H Q E → vs.length = ps.length)
   (hbody : ∀ (cdv : Value) (A : Around) (outer : List Env) (s : Shared) (H : Hp) (vs : List V) (Q : VK) (E : XK), Room k (A.deeper (envOfC qual scope s.heap.objs.size f cdv)) → sp vs H Q E →
     ∃ t, PSs (cxOf CX0 P w K mg base N qual scope f cdv A outer s H E).nox body t ∧ t { nx := fun _ H' => Q .non H', rt := Q } (start N vs) H) : FnOk P w K mg base CX0 (k + 1) f fd ps sp :=
 F.ok S len fun cdv A outer s H vs Q E hr hsp => by
   obtain ⟨t, h, q⟩ := hbody cdv A outer s H vs Q E hr hsp
   exact ⟨t, h.nox, q⟩
end G
namespace G
open PySem PySem.Spec PyProof.Rows L2
section
variable {X : Cx} {P : Program} {w : World} {K : PySem.W.Frag} {σ σ' : L2.St} {H : Hp} {F F1 F2 Fu : List Addr} {ta tb te to : TE} {tA : TT} {v u x y : V} {i j : Int} {Q : VK} {α β : Type} {τ : Ty α} {υ : Ty β} {n : Nat} {g : TG} {tt : TT} {ws : List Nat}
end
end G
namespace L2
open PySem PySem.Spec PyProof.Rows
section
variable {X : Cx} {e e3 : Expr} {te : TE} {t3 : TO} {pos p2 : Pos}
end
end L2
namespace G
open PySem PySem.Spec PyProof.Rows L2
section
variable {X : Cx} {P : Program} {w : World} {K : PySem.W.Frag} {σ σ' : L2.St} {H : Hp} {F F1 F2 Fu : List Addr} {ta tb te to : TE} {v u x y : V} {i j : Int} {Q : VK} {α β : Type} {τ : Ty α} {υ : Ty β}
theorem vals_rev {xs : List V} {us : List Value} (r : Vals xs us) : Vals xs.reverse us.reverse := r.reverse
theorem pr_reverse {R : V → α → Prop} {vs : List V} {xs : List α} (q : Paired R vs xs) : Paired R vs.reverse xs.reverse := by
 induction q with
 | nil => exact .nil
 | cons h t ih => rw [List.reverse_cons, List.reverse_cons]; exact pr_app ih (.cons h .nil)
end
end G
namespace RT
open PySem PySem.Spec PyProof.Rows L2
section
variable {prog : Program} {w : World} {A : Around} {E : Value → Shared → Prop} {s : Shared}
theorem extend_rev {R : Result → Shared → Prop} {it l : Addr} {items : Array Value} (hh : A.handled = none) (hit : s.heap.IsRevIter it l ((items.size : Int) - 1)) (hl : s.heap.IsList l items) (hne : l ≠ it) (hn : items.size ≤ sizeLine)
   (S : Addr) (res : Value) (c₀ : Nat) (hSi : S ≠ it) (hSl : S ≠ l) (hS : s.heap.get? S = some { cls := .type "list", data := .seq #[] c₀ })
   (hR : ∀ (h' : Heap) (tk : Nat) (acc : Array Value) (c' : Nat), (∀ b o, b ≠ S → b ≠ it → s.heap.get? b = some o → h'.get? b = some o) → h'.get? S = some { cls := .type "list", dict := none, data := .seq acc c', slots := #[] } →
     ItemsOf (fun i v => items[items.size - 1 - i]? = some v) acc items.size → R (.ok (.ret res)) { s with heap := h', toks := tk }) :
   wpAny (model prog w) A.in1 (Builtin.List.listExtendWith (.ref S) (.ref it) res)
     (fun fin s' => match fin with | .done f => R (.ok f) s' | .again c' => c'.quiet = true ∧ codeAny (model prog w) A c' R s') (fun e s' => R (.error e) s') s := by
 have W := (Walks.listRev (prog := prog) (w := w) (A := A.in1) hh it l hne items).toS
 have hSf : S ∉ [it, l] := by simp only [List.mem_cons, List.not_mem_nil, or_false, not_or]; exact ⟨hSi, hSl⟩
 have hT : s.TypeIs (.ref it) "list_reverseiterator" := Heap.IsRevIter.typeIs (s := s) hit
 have h1 : Builtin.List.listSameRef (.ref S) (.ref it) = false := by simp [Builtin.List.listSameRef, hSi]
 unfold Builtin.List.listExtendWith
 refine wpAny_bind (wpAny_typeOf hT ?_)
 rw [if_neg (by rw [h1]; decide)]
 refine wpAny_bind (wpAny_pyIter_revIter (s := s) hit ?_)
 refine wpAny_bind (wpAny_holding ?_)
 unfold Builtin.List.listLengthHint
 refine wpAny_bind (wpAny_specialOf hT nolen_lri ?_)
 show wpAny _ A.in1 (specialOf (Value.ref it) (Str.ofString "__length_hint__") >>= _) _ _ _
 refine wpAny_bind (wpAny_specialOf hT hint_lri ?_)
 generalize hid : ("list_reverseiterator.__length_hint__" : String) = id0
 wp_delta
 rw [show splitId id0 = some ("list_reverseiterator", "__length_hint__") from by subst hid; decide +kernel]
 subst hid
 refine wpAny_bind (wpAny_isInstance (b := true) hT (by rw [isSubtype_type]; kernel_rfl) ?_)
 refine wpAny_pure ?_
 rw [if_neg (by decide)]
 have e0 : ((items.size : Nat) : Int) - 1 - ((0 : Nat) : Int) = (items.size : Int) - 1 := by omega
 refine wpAny_pure ⟨plainId_quiet F.plain_extend_loop _, codeAny_extend_loopS W hn S hSf res items.size 0 _ #[] c₀ rfl (Nat.zero_le _) ⟨Nat.zero_le _, by rw [e0]; exact hit, hl⟩ hS (ItemsOf.nil _) fun s' acc' c' hm hS' hacc => ?_⟩
 rw [Moved.eq_with hm]
 refine hR s'.heap s'.toks acc' c' (fun b o hb hb2 e => hm.heap b o (fun hmem => ?_) e) hS' hacc
 rcases List.mem_cons.mp hmem with e' | hmem
 · exact hb e'
 · exact hb2 (List.mem_singleton.mp hmem)
theorem list_init_rev {R : Result → Shared → Prop} {it l : Addr} {items : Array Value} (hh : A.handled = none) (hit : s.heap.IsRevIter it l ((items.size : Int) - 1)) (hl : s.heap.IsList l items) (hne : l ≠ it) (hn : items.size ≤ sizeLine)
   (S : Addr) (hSi : S ≠ it) (hSl : S ≠ l) (hS : s.heap.get? S = some { cls := .type "list", data := .seq #[] })
   (hR : ∀ (h' : Heap) (tk : Nat) (acc : Array Value) (c' : Nat), (∀ b o, b ≠ S → b ≠ it → s.heap.get? b = some o → h'.get? b = some o) → h'.get? S = some { cls := .type "list", dict := none, data := .seq acc c', slots := #[] } →
     ItemsOf (fun i v => items[items.size - 1 - i]? = some v) acc items.size → R (.ok (.ret .none)) { s with heap := h', toks := tk }) :
   wpAny (model prog w) A.in1 (Builtin.«list.__init__» ⟨[.ref S, .ref it], []⟩)
     (fun fin s' => match fin with | .done f => R (.ok f) s' | .again c' => c'.quiet = true ∧ codeAny (model prog w) A c' R s') (fun e s' => R (.error e) s') s := by
 show wpAny _ _ (do let old ← Builtin.List.listItems (.ref S); Builtin.List.listUpdate (.ref S) (fun _ => #[]); letGo old.toList.reverse; Builtin.List.listExtendWith (.ref S) (.ref it) .none) _ _ s
 refine wpAny_bind ?_
 unfold Builtin.List.listItems
 refine wpAny_bind (wpAny_seqItems hS rfl (wpAny_pure ?_))
 show wpAny _ _ (updateSeq S (fun _ => #[]) >>= fun _ => letGo (#[] : Array Value).toList.reverse >>= fun _ => Builtin.List.listExtendWith (.ref S) (.ref it) .none) _ _ s
 refine wpAny_bind (wpAny_updateSeq hS rfl ?_)
 have hS₂ := Heap.get?_update_self (Obj.mapSeq (fun _ => (#[] : Array Value))) hS rfl
 have oth : ∀ b o, b ≠ S → s.heap.get? b = some o → (s.heap.update S (Obj.mapSeq (fun _ => (#[] : Array Value)))).get? b = some o :=
   fun b o hb e => (Heap.get?_update_other _ _ (Ne.symm hb)).trans e
 refine wpAny_bind (wpAny_letGo ?_)
 have hit2 : (s.heap.update S (Obj.mapSeq (fun _ => (#[] : Array Value)))).IsRevIter it l ((items.size : Int) - 1) := hit.at fun o e => oth it o (Ne.symm hSi) e
 have hl2 : (s.heap.update S (Obj.mapSeq (fun _ => (#[] : Array Value)))).IsList l items := let ⟨o, ho, r⟩ := hl; ⟨o, oth l o (Ne.symm hSl) ho, r⟩
 refine extend_rev hh hit2 hl2 hne hn S .none _ hSi hSl hS₂ fun h' tk acc' c' hk hS' hacc => ?_
 exact hR h' tk acc' c' (fun b o hb hb2 e => hk b o hb hb2 (oth b o hb e)) hS' hacc
theorem call_list_rev {it l : Addr} {items : Array Value} {Q : Value → Shared → Prop} (hh : A.handled = none) (hit : s.heap.IsRevIter it l ((items.size : Int) - 1)) (hl : s.heap.IsList l items) (hne : l ≠ it) (hn : items.size ≤ sizeLine)
   (hQ : ∀ (h' : Heap) (tk : Nat) (acc : Array Value) (c' : Nat), (∀ b o, b ≠ it → s.heap.get? b = some o → h'.get? b = some o) → h'.get? s.heap.objs.size = some { cls := .type "list", dict := none, data := .seq acc c', slots := #[] } →
     ItemsOf (fun i v => items[items.size - 1 - i]? = some v) acc items.size → Q (.ref s.heap.objs.size) { s with heap := h', toks := tk }) :
   wpAny (model prog w) A (call (.type "list") [.ref it]) Q E s := by
 obtain ⟨oi, hoi, _⟩ := id hit
 obtain ⟨ol, hol, _⟩ := id hl
 refine callType_codes (Q₁ := fun obj s₁ => obj = .ref s.heap.objs.size ∧ s₁ = { s with heap := s.heap.push { cls := .type "list", data := .seq #[] } }) F.called_list (F.typeCall_list_1 _) F.entry_list_init
   (code_list_new _ ⟨rfl, rfl⟩) fun obj s₁ h₁ => ?_
 obtain ⟨rfl, rfl⟩ := h₁
 have hS : (s.heap.push { cls := .type "list", data := .seq #[] }).get? s.heap.objs.size = some { cls := .type "list", data := .seq #[] } := Heap.get?_push_size _ rfl
 refine ⟨⟨_, hS, rfl⟩, F.args_list_init_2 _ _, list_init_rev (A := A.in1) (s := { s with heap := s.heap.push { cls := .type "list", data := .seq #[] } }) hh (hit.at fun o e => Heap.get?_push_of_some _ e) (hl.push _) hne hn _ (Nat.ne_of_gt (Heap.lt_size hoi)) (Nat.ne_of_gt (Heap.lt_size hol)) hS fun h' tk acc' c' hk hS' hacc => ?_⟩
 exact ⟨rfl, hQ h' tk acc' c' (fun b o hb e => hk b o (Nat.ne_of_lt (Heap.lt_size e)) hb (Heap.get?_push_of_some _ e)) hS' hacc⟩
end
end RT
namespace L2
open PySem PySem.Spec PyProof.Rows RT
section
variable {X : Cx}
def tLstRev (K : PySem.W.Frag) (te : TE) : TE := fun σ H Q => te σ H fun v H1 => ∃ (a : Addr) (xs : List V), v = .ref a ∧ SqL K H1 a xs ∧ ∀ q, H1 q = none → Q (.ref q) (upd H1 q (.lst xs.reverse))
theorem pe_listRev {e : Expr} {te : TE} {p p2 pos pos2 : Pos} (hc : X.calm = true) (hg : Gl X "list") (hm : X.mg "list" = none) (hg2 : Gl X "reversed") (hm2 : X.mg "reversed" = none) (he : PE X e te)
   (hs : starEach [e] X.env = (false, eval e X.env) :: starEach [] X.env := by rfl)
   (hs2 : starEach [.Call (.Name "reversed" p2) [e] [] pos2] X.env = (false, eval (.Call (.Name "reversed" p2) [e] [] pos2) X.env) :: starEach [] X.env := by rfl) :
   PE X (.Call (.Name "list" p) [.Call (.Name "reversed" p2) [e] [] pos2] [] pos) (tLstRev X.K te) := by
 refine ⟨fun pins s σ H Q I h => ?_⟩
 refine Call_ (ld_blt I hg hm boot_list (PyProof.Rows.callWith_type1 (args_cons (Call_ (ld_blt I hg2 hm2 PyProof.Rows.boot_reversed (PyProof.Rows.callWith_type1 (args_cons (thn (he.run pins s σ H _ I h) fun u s1 ⟨v, H1, I1, r1, q1⟩ => args_nil ?_) hs) hs rfl))) hs2) hs2 rfl))
 obtain ⟨a, xs, ev, hq, q⟩ := q1
 subst ev
 obtain rfl : u = Value.ref a := r1
 obtain ⟨its, rv, p', hz⟩ := I1.list hq
 refine call_reversed_list p'.isList (args_nil ?_)
 have k0 : ∀ b o, s1.heap.get? b = some o → (s1.heap.push (revObj a ((its.toArray.size : Int) - 1))).get? b = some o := fun b o e => Heap.get?_push_of_some _ e
 have I2 : Inv X pins σ H1 { s1 with heap := s1.heap.push (revObj a ((its.toArray.size : Int) - 1)) } := I1.kept (t' := s1.toks) k0
 obtain ⟨f0, f1, f2, f3, f4, f5⟩ := I1.fpOk (H' := H1) (b := s1.heap.objs.size) (Nat.le_refl _) (I1.hok.fresh (Nat.le_refl _))
 have hl := p'.isList
 obtain ⟨ol, hol, _⟩ := id hl
 have hne : a ≠ s1.heap.objs.size := Nat.ne_of_lt (Heap.lt_size hol)
 have hn : its.toArray.size ≤ sizeLine := by rw [List.size_toArray, ← rv.length]; exact hz
 refine call_list_rev (s := { s1 with heap := s1.heap.push (revObj a ((its.toArray.size : Int) - 1)) }) (I1.ok.hd hc) ⟨_, Heap.get?_push_size _ rfl, rfl, rfl⟩ (hl.push _) hne hn fun h' tk acc c' hk hS' hi => ?_
 have hsz : (s1.heap.push (revObj a ((its.toArray.size : Int) - 1))).objs.size = s1.heap.objs.size + 1 := Heap.size_push ..
 rw [hsz] at hS' ⊢
 refine ⟨.ref (s1.heap.objs.size + 1), upd H1 (s1.heap.objs.size + 1) (.lst xs.reverse), I1.laid (t' := tk) (fun c o e => hk c o (Nat.ne_of_lt (Heap.lt_size e)) (k0 c o e)) (Nat.le_succ _) (show ObjOk X.prog X.w _ _ _ (.lst xs.reverse) from ⟨by rw [List.length_reverse]; exact hz, acc.toList, c', vals_rev rv hi, ?_⟩), rfl, q _ (I1.hok.fresh (Nat.le_succ _))⟩
 rw [Array.toArray_toList]
 exact hS'
end
end L2
namespace G
open PySem PySem.Spec PyProof.Rows L2
section
variable {X : Cx} {K : PySem.W.Frag} {σ σ' : L2.St} {H : Hp} {F : List Addr} {te : TE} {v : V} {Q : VK} {α : Type} {τ : Ty α}
theorem pe_listRevK {K : PySem.W.Frag} {e : Expr} {p p2 pos pos2 : Pos} (hc : X.calm = true) (hg : Gl X "list") (hm : X.mg "list" = none) (hg2 : Gl X "reversed") (hm2 : X.mg "reversed" = none) (he : PE X e te) (e0 : X.K = K := by rfl)
 (hs : starEach [e] X.env = (false, eval e X.env) :: starEach [] X.env := by rfl)
 (hs2 : starEach [.Call (.Name "reversed" p2) [e] [] pos2] X.env = (false, eval (.Call (.Name "reversed" p2) [e] [] pos2) X.env) :: starEach [] X.env := by rfl) :
 PE X (.Call (.Name "list" p) [.Call (.Name "reversed" p2) [e] [] pos2] [] pos) (tLstRev K te) := by subst e0; exact pe_listRev hc hg hm hg2 hm2 he hs hs2
def LrvG (K : PySem.W.Frag) (v : V) (H1 : Hp) (Q : VK) : Prop := ∃ (a : Addr) (xs : List V), v = .ref a ∧ SqL K H1 a xs ∧ ∀ q, H1 q = none → Q (.ref q) (upd H1 q (.lst xs.reverse))
theorem w_lrev (h : te σ H fun v H1 => LrvG K v H1 Q) : tLstRev K te σ H Q := h
theorem x_lrev {xs : List α} (r : (yLst τ).rep K H F v xs) (k : ∀ p H', H p = none → Chg [] H H' → (yLst τ).rep K H' [p] (.ref p) xs.reverse → Q (.ref p) H') : LrvG K v H Q := by
 obtain ⟨a, vs, rfl, s, q⟩ := lst_sq r
 exact ⟨a, vs, rfl, s, fun p np => k p _ np (Chg.lay np trivial) ⟨p, _, rfl, rfl, upd_same, pr_reverse (Paired.mapP q fun _ _ z => Ty.ex z (Chg.lay np trivial))⟩⟩
end
end G
namespace L2
open PySem PySem.Spec PyProof.Rows
end L2
namespace G
open PySem PySem.Spec PyProof.Rows L2
section
variable {X : Cx} {K : PySem.W.Frag} {σ σ' : L2.St} {H : Hp} {F : List Addr} {te ta tb : TE} {v : V} {Q : VK} {α : Type} {τ : Ty α} {a b c : List Nat} {i : Int} {D : Ends} {t2 : TS}
end
end G
namespace L2
open PySem PySem.Spec PyProof.Rows ItX
section
variable {X : Cx} {tg e : Expr} {te : TE} {C fi : Addr} {fd : FuncData} {n : Nat} {fld : Str}
end
end L2
namespace G
open PySem PySem.Spec PyProof.Rows L2
section
variable {X : Cx} {K : PySem.W.Frag} {σ σ' : L2.St} {H : Hp} {F : List Addr} {te : TE} {v : V} {α β : Type} {τ : Ty α} {C : Addr} {ns : List Str} {fld : Str}
end
end G
namespace L2
open PySem PySem.Spec PyProof.Rows ItX
section
variable {X : Cx} {C f : Addr} {fd : FuncData} {k : Nat} {ps : List Str} {sp : Sp}
end
section
variable {X : Cx} {C fi : Addr} {fd : FuncData} {n : Nat} {fld : Str}
end
end L2
namespace G
open PySem PySem.Spec PyProof.Rows L2
section
variable {X : Cx} {K : PySem.W.Frag} {σ σ' : L2.St} {H : Hp} {F : List Addr} {ta te : TE} {v x y : V} {α β : Type} {τ : Ty α} {C : Addr} {ns : List Str} {fld : Str} {Q : VK}
end
end G
namespace PySem
namespace ErrX
open PySem.W PySem.Calls PyProof.Rows PySem.HandSPX
def eA (p1 p2 : Pos) : Arguments := { posonlyargs := [], args := [{ arg := "self", annotation := none, pos := p1 }, { arg := "part", annotation := none, pos := p2 }], vararg := none, kwonlyargs := [], kw_defaults := [], kwarg := none, defaults := [] }
def eB (m : Str) (p0 p1 p2 p3 p4 p5 p6 p7 q1 q2 q3 q4 : Pos) : List Stmt :=
 [.Expr (.Call (.Attribute (.Call (.Name "super" p0) [] [] p1) "__init__" p2) [.BinOp (.Constant (.str m) 0 p3) .Add (.Name "part" p4) p5] [] p6) p7, .Assign [.Attribute (.Name "self" q1) "part" q2] (.Name "part" q3) q4]
def eS : Scope := { kind := .function, names := [(PySem.Str.ofString "self", .local), (PySem.Str.ofString "part", .local), (PySem.Str.ofString "__class__", .free), (PySem.Str.ofString "super", .globalImplicit)], isGenerator := false, isCoroutine := false, more := [] }
structure ErrTxt (P : Program) (K : Frag) (mg : Str → Option Value) (x qual : Str) (st : Stmt) (C fI : Addr) : Prop where
 gC : mg x = some (.ref C)
 cls : ∃ nm q N bs bm sn sub ab col dd k0 k1 k2 k3 k5, K.lookup C = some (excClassObj nm q C N bs bm true sn sub ab col dd k0 k1 k2 k3 k5 "ValueError.__new__") ∧ refsVE bm = true
 sa : findIn K (.ref C) "__setattr__" = some (some (.builtin "object.__setattr__"))
 ga : findIn K (.ref C) "__getattribute__" = some (some (.builtin "BaseException.__getattribute__"))
 gg : findIn K (.ref C) "__getattr__" = some none
 noN : findIn K (.ref C) "part" = some none
 iC : findIn K (.ref C) "__init__" = some (some (.ref fI))
 tC : typeIn K (.ref fI) = some (.type "function")
 kC : keepIn K (.ref C) = true
 exC : subIn K (.ref C) (.type "BaseException") = some true
 veC : subIn K (.ref C) (.type "ValueError") = some true
 tyC : typeIn K (.ref C) = some (.type "type")
 hdC : hasDictIn K C = true
 mroC : mroIn K C (.ref C) = some true
 sup : ks_superIn K C C "__init__" = some (some (.builtin "ValueError.__init__"))
 opq : nsIn K cStatics "thirdparty.any" = some none
 nsu : mg "super" = none
 top : (P.main.scope.names.lookup ("super" : Str)).isSome = false
 fn : ∃ (oc : Value) (od : Option Addr) (doc pm : Value) (an : Option Addr) (cda : Addr) (ct : Value) (cc : Addr) (osl : Array (Option Value)),
   K.lookup fI = some ⟨oc, od, .func (ksFn "__init__" qual (L2.defArgs st) (L2.defBody st) (L2.defScope st) .none .none doc pm an (.ref cda) ct cc), osl⟩ ∧ codeIn K (.ref cda) qual = true ∧
   (∃ (ccl : Value) (cdd : Option Addr) (vs : Array Value) (ccs : Array (Option Value)) (file : Str) (tf : Tok), K.lookup cda = some ⟨ccl, cdd, .fields vs, ccs⟩ ∧ vs[2]? = some (.str file tf) ∧ ((P.main.file : Str) == file) = true) ∧
   ∃ (cl : Value) (cld : Option Addr) (csl : Array (Option Value)), K.lookup cc = some ⟨cl, cld, .cell (some (.ref C)), csl⟩
 shape : ∃ (msg : Str) (r1 r2 p0 p1 p2 p3 p4 p5 p6 p7 q1 q2 q3 q4 : Pos), L2.defArgs st = eA r1 r2 ∧ L2.defBody st = eB msg p0 p1 p2 p3 p4 p5 p6 p7 q1 q2 q3 q4 ∧ L2.defScope st = eS ∧ msg.length ≤ 100 ∧
   ∀ L f cda cc : Addr, ∃ pl : Sem Bool, eval (.Call (.Attribute (.Call (.Name "super" p0) [] [] p1) "__init__" p2) [.BinOp (.Constant (.str msg) 0 p3) .Add (.Name "part" p4) p5] [] p6) (ksEnv qual eS L f (.ref cda) cc) = (do
     let ov ← attributeBase (.Call (.Name "super" p0) [] [] p1) "__init__" (ksEnv qual eS L f (.ref cda) cc) (eval (.Call (.Name "super" p0) [] [] p1) (ksEnv qual eS L f (.ref cda) cc))
     standAt p2.atName
     let (f', first) ← holding [ov] (getMethod ov "__init__" pl)
     callWith p6 f' first (backTo p6 (starEach [.BinOp (.Constant (.str msg) 0 p3) .Add (.Name "part" p4) p5] (ksEnv qual eS L f (.ref cda) cc))) [])
structure InitEnd (h h' : Heap) (x C dx : Addr) (v : Value) : Prop where
 keep : ∀ b o, b ≠ x → h.get? b = some o → h'.get? b = some o
 obj : ∃ t1 : Addr, h'.get? x = some { cls := .ref C, dict := some dx, data := .fields #[.ref t1, .none, .none, .none, .bool false, .none] }
 dbig : h.objs.size ≤ dx
 dne : dx ≠ x
 ns : h'.Ns1 dx (fun y => if y = "part" then some v else none)
section
variable {prog : Program} {w : World} {A : Around} {E : Value → Shared → Prop} {R : Result → Shared → Prop} {s : Shared} {K : Frag} {mg mb : Str → Option Value} {C fI : Addr} {cn qual : Str} {st : Stmt}
theorem ldX {M : Model} {s : Shared} {name : Str} {scope : Scope} {L a cc : Addr} {cd : Value} {m : Str → Option Value} {x : Str} {pos : Pos} {v : Value} {Q : Value → Shared → Prop} {A : Around} {E : Value → Shared → Prop} (hn : s.heap.Ns L m) (hv : m x = some v) (h : Q v s)
 (hk : scope.kind = .function := by rfl) (hl : (ksEnv name scope L a cd cc).kindOf x = some .local := by rfl) (hd : (x == ("__debug__" : Str)) = false := by decide) :
 wpAny M A (eval (.Name x pos) (ksEnv name scope L a cd cc)) Q E s := wpAny_Name (wpAny_loadName_local hk hl hn hv h) hd
theorem err_init (T : ErrTxt prog K mg cn qual st C fI) {x t0 : Addr} {y : Str} {ty : Tok} (X : K.In s.heap) (hg : s.heap.Ns mainGlobals mg) (hb : s.heap.Ns builtinsNs mb) (hbs : mb "super" = bootBuiltins "super") (hlim : s.heap.NoLimit) (hx : s.heap.get? x = some (excO C t0)) (hnx : K.lookup x = none) (hy : y.length ≤ 1000000) (hroom : A.depth < recursionLimit)
   (hq : ∀ h' tk dx, InitEnd s.heap h' x C dx (.str y ty) → R (.ok (.ret .none)) { s with heap := h', toks := tk }) :
   codeAny (model prog w) A (.call (.ref fI) ⟨[.ref x, .str y ty], []⟩) R s := by
 obtain ⟨oc, od, doc, pm, an, cda, ct, cc, osl, ho, hcd, ⟨ccl, cdd, vs, ccs, file, tf, hcode, hvs, hfile⟩, cl, cld, csl, hcell⟩ := T.fn
 obtain ⟨msg, r1, r2, p0, p1, p2, p3, p4, p5, p6, p7, q1, q2, q3, q4, eA', eB', eS', hml, hev⟩ := T.shape
 rw [eA', eB', eS'] at ho
 obtain ⟨nm, q, N, bs, bm, sn, sub, ab, col, dd, k0, k1, k2, k3, k5, hC, hbm⟩ := T.cls
 have hcl : clsIn K C = some { name := nm, bases := bs, mro := .ref C :: bm, ns := N, qualname := q, hasDict := true, slotNames := sn, subclasses := sub, abstract := ab, collection := col, hasDel := false } := by unfold clsIn; rw [hC] <;> rfl
 refine ks_codeAny_call_defAt (fd := ksFn "__init__" qual (eA r1 r2) (eB msg p0 p1 p2 p3 p4 p5 p6 p7 q1 q2 q3 q4) eS .none .none doc pm an (.ref cda) ct cc) (body := eB msg p0 p1 p2 p3 p4 p5 p6 p7 q1 q2 q3 q4) (binds := [("self", .ref x), ("part", .str y ty)]) hroom (X _ _ ho) rfl hlim (codeRec_of X hcd) rfl (BindsTo.of_eq (by first | rfl | with_unfolding_all rfl)) (fun z hz => by revert z; show ∀ z ∈ eS.names, z.2 ≠ NameKind.cell; decide) (by first | decide | (intro z hz; simp at hz; rcases hz with rfl | rfl <;> rfl)) (fun h₁ hns k => ?_) rfl rfl rfl
 have X₁ : K.In h₁ := X.keeps k
 have hx₁ := k _ _ hx
 show wpAt (model prog w) _ _ (execs (_ :: _) (ksEnv qual eS s.heap.objs.size fI (.ref cda) cc)) _ _ _
 obtain ⟨pl, he⟩ := hev s.heap.objs.size fI cda cc
 refine ks_wpAt_execs_cons (ks_wpAt_Expr_any (ks_wpAt_MethodCall (pl := pl) (he := he) ?_))
 obtain ⟨oD, hD1, hD2⟩ : ∃ oD, h₁.get? C = some oD ∧ oD.data = .cls { name := nm, bases := bs, mro := .ref C :: bm, ns := N, qualname := q, hasDict := true, slotNames := sn, subclasses := sub, abstract := ab, collection := col, hasDel := false } := ⟨_, X₁ _ _ hC, rfl⟩
 refine ks_wpAt_super_base (env := ksEnv qual eS s.heap.objs.size fI (.ref cda) cc) rfl rfl rfl rfl (X₁ _ _ ho) rfl rfl rfl (X₁ _ _ hcode) rfl hvs hfile T.top ?_
 refine ks_loadName_global rfl rfl (loadGlobal_builtin (env := ksEnv qual eS s.heap.objs.size fI (.ref cda) cc) (hg.keeps k) T.nsu (hb.keeps k) (hbs.trans (by decide +kernel)) ⟨rfl, ?_⟩)
 refine wpAny_loadName_free rfl rfl rfl ⟨_, X₁ _ _ hcell, rfl⟩ ?_
 refine wpAny_loadName_local rfl rfl hns (v := .ref x) rfl ?_
 refine ks_wpAny_isType_cls hD1 hD2 ⟨rfl, ?_⟩
 refine ks_wpAny_call_super hD1 hD2 hx₁ rfl (fun c e => by cases e) (looks_mroIn X₁ T.mroC) (fun h₂ hso k₂ => ?_)
 have X₂ : K.In h₂ := X₁.keeps k₂
 have hx₂ := k₂ _ _ hx₁
 have I₂ : InstAt h₂ x (excO C t0) C none := ⟨hx₂, rfl, rfl, trivial⟩
 have hI : Looks (model prog w) h₂ (isInstance (.ref x) (.type "ValueError")) true := I₂.type.andThen (looks_subIn X₂ T.veC)
 have hsup := T.sup
 unfold ks_superIn at hsup
 rw [hcl] at hsup
 refine kxs_getMethod kxs_ValueError hso (looks_opaque X₂ T.opq) (l₀ := .ref C :: bm) (fun A Q E s k q => wpAny_bind ((looks_clsIn X₂ hcl) A _ E s k (wpAny_pure q))) rfl X₂ hsup hI (ks_ne X₂ I₂ hcl) rfl ?_
 have k₃ : ∀ b o, h₂.get? b = some o → (h₂.push (kxs_mw "ValueError.__init__" x)).get? b = some o := fun b o e => Heap.get?_push_of_some _ e
 have hu : (h₂.push (kxs_mw "ValueError.__init__" x)).get? h₂.objs.size = some (kxs_mw "ValueError.__init__" x) := Heap.get?_push_at rfl rfl
 have hns₃ : (h₂.push (kxs_mw "ValueError.__init__" x)).Ns s.heap.objs.size (fun y' => ([("self", .ref x), ("part", Value.str y ty)] : List (Str × Value)).reverse.lookup y') := (hns.keeps k₂).keeps k₃
 refine kxs_callWith (i := "ValueError.__init__") (x := x) rfl (evalArgs_plain (args_cons (wpAny_BinOp (wpAny_Constant_str (ldX hns₃ (v := .str y ty) rfl (add_str (fun t' tk => args_nil ⟨hu, ?_⟩) (by rw [sizeLine_eq]; omega))))) rfl))
 refine wpAny_call (codeAny_of_tree ?_)
 show wpAny _ _ (callAny (.ref h₂.objs.size) ⟨_, []⟩) _ _ _
 simp only [callAny]
 refine wpAny_bind (wpAny_load hu ?_)
 simp only [kxs_mw, show (Value.type "method-wrapper" == Value.type "method" || Value.type "method-wrapper" == Value.type "builtin_function_or_method" || Value.type "method-wrapper" == Value.type "method-wrapper") = true by decide, if_true]
 refine KFB.if_so (by decide) ?_
 refine wpAny_bind (check_bound_init F.excBase_ValueError.toExcCallFacts (k₃ _ _ (X₂ _ _ hC)) (k₃ _ _ hx₂) rfl ?_)
 refine wpAny_bind (wpAny_pure (wpAny_pure ?_))
 refine ⟨plainId_quiet F.excBase_ValueError.init.plain _, codeAny_builtin F.excBase_ValueError.initEntry ?_⟩
 refine exc_init_tree (cls := .ref C) (t0 := t0) (dv := none) (c2 := .none) (c3 := .none) (b4 := .bool false) (k₃ _ _ hx₂) (by rw [sizeLine_eq]; exact (by decide : 1 ≤ 16777216)) fun h₄ k₄ hx₄ _ => ?_
 show wpAt (model prog w) _ _ (execs (_ :: _) (ksEnv qual eS s.heap.objs.size fI (.ref cda) cc)) _ _ _
 have kk : ∀ b o, b ≠ x → s.heap.get? b = some o → h₄.get? b = some o := fun b o hb e => k₄ b o hb (k₃ b o (k₂ b o (k b o e)))
 have hLx : s.heap.objs.size ≠ x := Nat.ne_of_gt (Heap.lt_size hx)
 have hns₄ : h₄.Ns s.heap.objs.size (fun y' => ([("self", .ref x), ("part", Value.str y ty)] : List (Str × Value)).reverse.lookup y') := by
   obtain ⟨oL, es, ep, hL, r⟩ := hns₃
   exact ⟨oL, es, ep, k₄ _ _ hLx hL, r⟩
 have X₄ : K.In h₄ := fun b o e => k₄ b o (fun z => by
   rw [z, hnx] at e; cases e) (k₃ b o (X₂ _ _ e))
 refine wpAt_of_wpAny (wpAny_execs_cons (plainObj_wpAny_Assign_Attribute ?_))
 refine ldX (v := .str y ty) hns₄ rfl (ldX (v := .ref x) hns₄ rfl ?_)
 refine set_plain X₄ (ox := excO C (h₂.push (kxs_mw "ValueError.__init__" x)).objs.size) (od := none) ⟨hx₄, rfl, rfl, trivial⟩ T.sa ?_
 refine exc_osa X₄ hx₄ hcl (show refsVE (.ref C :: bm) = true from hbm) rfl T.noN (fun h₅ tk₅ dx k₅ dn dne hx₅ hn₅ => ?_)
 show wpAny _ _ (execs _ _) _ _ _
 have z : s.heap.objs.size < h₄.objs.size := hns₄.lt
 exact wpAny_execs_nil (hq h₅ tk₅ dx ⟨fun b o hb e => k₅ b o hb (kk b o hb e), ⟨_, hx₅⟩, Nat.le_of_lt (Nat.lt_of_lt_of_le z dn), dne, hn₅⟩)
structure OwnMade (h h' : Heap) (e C d : Addr) (v : Value) : Prop where
 keep : ∀ b o, h.get? b = some o → h'.get? b = some o
 new : h.objs.size ≤ e
 obj : ∃ oe vs, h'.get? e = some oe ∧ oe.cls = .ref C ∧ oe.dict = some d ∧ oe.data = .fields vs ∧ vs[1]? = some .none
 dbig : h.objs.size ≤ d
 dne : d ≠ e
 ns : h'.Ns1 d (fun y => if y = "part" then some v else none)
theorem one_size (v : Value) : [v].length ≤ sizeLine := by
 rw [sizeLine_eq]
 exact (by decide : 1 ≤ 16777216)
theorem err_made (T : ErrTxt prog K mg cn qual st C fI) {y : Str} {ty : Tok} (X : K.In s.heap) (hg : s.heap.Ns mainGlobals mg) (hb : s.heap.Ns builtinsNs mb) (hbs : mb "super" = bootBuiltins "super") (hlim : s.heap.NoLimit) (hy : y.length ≤ 1000000) (hroom : A.depth + 1 < recursionLimit)
   (hq : ∀ h' tk e d, OwnMade s.heap h' e C d (.str y ty) → R (.ok (.ret (.ref e))) { s with heap := h', toks := tk }) :
   codeAny (model prog w) A (.call (.ref C) ⟨[.str y ty], []⟩) R s := by
 obtain ⟨nm, q, N, bs, bm, sn, sub, ab, col, dd, k0, k1, k2, k3, k5, hC, hbm⟩ := T.cls
 obtain ⟨hp, g, dr, tk, os⟩ := s
 have k : ∀ b o, hp.get? b = some o → ((hp.push (kdv_tup [.str y ty])).push (excO C hp.objs.size)).get? b = some o := fun b o e => Heap.get?_push_of_some _ (Heap.get?_push_of_some _ e)
 have hget : ((hp.push (kdv_tup [.str y ty])).push (excO C hp.objs.size)).get? (hp.objs.size + 1) = some (excO C hp.objs.size) := by heap_get
 have hnx : K.lookup (hp.objs.size + 1) = none := by
   cases e : K.lookup (hp.objs.size + 1) with
   | none => rfl
   | some o =>
     have z : hp.get? (hp.objs.size + 1) = some o := X _ _ e
     exact absurd (Nat.lt_of_succ_lt (Heap.lt_size z)) (Nat.lt_irrefl _)
 refine call_own F.excBase_ValueError (fun X => refsVE_contains X bm hbm) (X _ _ hC) (looks_findIn X T.iC) (fun self => bind_fn X self T.tC) (one_size _) ?_
 refine err_init (s := ⟨(hp.push (kdv_tup [.str y ty])).push (excO C hp.objs.size), g, dr, tk, os⟩) T (X.keeps k) (hg.keeps k) (hb.keeps k) hbs (hlim.keeps k) hget hnx hy ?_ fun h' tk' dx ⟨k', ⟨t1, hx⟩, dn, dne, hns⟩ => ?_
 · show A.depth + 1 < recursionLimit
   exact hroom
 · have old : ∀ b o, hp.get? b = some o → h'.get? b = some o := fun b o e => k' b o (Nat.ne_of_lt (Nat.lt_succ_of_lt (Heap.lt_size e))) (k b o e)
   have z : hp.objs.size + 1 + 1 ≤ dx := by
     first
       | (simpa only [Heap.size_push] using dn)
       | exact dn
       | (have q := dn; rw [Heap.size_push, Heap.size_push] at q; exact q)
   exact ⟨rfl, hq h' tk' (hp.objs.size + 1) dx ⟨old, Nat.le_succ _, ⟨_, _, hx, rfl, rfl, rfl, rfl⟩, Nat.le_trans (Nat.le_trans (Nat.le_succ _) (Nat.le_succ _)) z, dne, hns⟩⟩
end
end ErrX
end PySem
namespace L2
open PySem PySem.Spec PyProof.Rows
theorem relO_part {v : V} {v' : Value} (r : RelV v v') (f : Str) : RelO (List.lookup f [(("part" : Str), v)]) (if f = "part" then some v' else none) := by
 by_cases hw : f = "part"
 · subst hw
   rw [if_pos rfl]
   have q : List.lookup ("part" : Str) [(("part" : Str), v)] = some v := by simp [List.lookup]
   rw [q]
   exact r
 · rw [if_neg hw]
   have qw : (f == ("part" : Str)) = false := by simpa using hw
   have q2 : List.lookup f [(("part" : Str), v)] = none := by simp [List.lookup, qw]
   rw [q2]
   trivial
section
variable {X : Cx} {C fI : Addr} {cn qual : Str} {st : Stmt}
def tMkErr (C : Addr) (ta : TA) : St → Hp → XK → Prop := fun σ H Q => ta σ H fun vs H1 => ∃ y : Str, vs = [.str y] ∧ y.length ≤ 1000000 ∧ ∀ d, H1 d = none → Q (.ref C) (some d) (upd H1 d (.xd [(("part" : Str), .str y)]))
theorem pmk_err {a : Expr} {ta : TA} {p pos : Pos} {k : Nat} (T : PySem.ErrX.ErrTxt X.prog X.K X.mg cn qual st C fI) (hr : Room k X.A) (ha : PA X [a] ta) (hg : Gl X cn := by rfl) (hdb : (cn == ("__debug__" : Str)) = false := by decide)
   (he : starEach (a :: []) X.env = (false, eval a X.env) :: starEach [] X.env := by rfl) (hpl : (backTo pos (starEach [] X.env)).any (·.1) = false := by rfl) :
   PMk X (.Call (.Name cn p) [a] [] pos) (tMkErr C ta) := by
 intro pins s σ H Q I h
 refine wpAny_Call_Name_kw (ld_glob I hg T.gC ?_ hdb)
 refine PySem.W.callWith_K (h₀ := X.base) I.ok.mod.kin T.kC (thn (ha.run pos pins s σ H _ I h) fun us s1 hh => ?_) he hpl
 obtain ⟨vs, H1, I1, r1, y, ev, hy, q1⟩ := hh
 subst ev
 refine ⟨I1.kIn, ?_⟩
 obtain ⟨v', rfl, rv⟩ := r1.one
 obtain ⟨ty, rfl⟩ := rv
 show wpAny _ _ (call (.ref C) [.str y ty]) _ _ _
 have hlim := I1.nolimit
 have hkb : ∀ b o, X.base.get? b = some o → s1.heap.get? b = some o := fun b o e => (I1.env0.bs b o e).1
 obtain ⟨mb, hbn, hbb⟩ := I1.ok.mod.blt
 obtain ⟨hp, g, dr, tk, os⟩ := s1
 refine wpAny_call (PySem.ErrX.err_made T I1.kIn (I1.ok.mod.glob.keeps hkb) (hbn.keeps hkb) (hbb "super" (by decide)) hlim hy (by have := hr.dp; omega) fun h' tk' e d M => ?_)
 show MkP X pins σ Q (.ref e) ⟨h', g, dr, tk', os⟩
 obtain ⟨oe, fv, hoe, hc, hd, hdat, h1⟩ := M.obj
 have hns := M.ns
 obtain ⟨G', g1, g2⟩ := restrict h' fun b => decide (b ≠ e)
 have gk : ∀ b, b ≠ e → G'.get? b = h'.get? b := fun b hb => g1 b (decide_eq_true hb)
 have ge : G'.get? e = none := g2 e (by simp)
 have old : ∀ b o, hp.get? b = some o → G'.get? b = some o := fun b o q => (gk b (Nat.ne_of_lt (Nat.lt_of_lt_of_le (Heap.lt_size q) M.new))).trans (M.keep b o q)
 have ob : ObjOk X.prog X.w (upd H1 d (.xd [(("part" : Str), .str y)])) G' d (.xd [(("part" : Str), .str y)]) :=
   ⟨_, hns.at (fun o q => (gk d M.dne).trans q), fun f => relO_part (show RelV (.str y) (.str y ty) from ⟨ty, rfl⟩) f⟩
 have J : Inv X pins σ (upd H1 d (.xd [(("part" : Str), .str y)])) ⟨G', g, dr, tk', os⟩ := I1.laid (t' := tk') old M.dbig ob
 refine ⟨e, oe, fv, ⟨G', g, dr, tk', os⟩, _, .ref C, some d, rfl, J, fun b o q => ?_, ge, hoe, ⟨hc, hd⟩, hdat, h1, ?_, rfl, I1.bare, raises_own T.exC T.tyC, q1 d (I1.hok.fresh M.dbig)⟩
 · by_cases hb : b = e
   · have q' : G'.get? b = some o := q
     rw [hb, ge] at q'; cases q'
   · exact (gk b hb).symm.trans q
 · rw [upd_ne (Ne.symm M.dne)]
   exact I1.hok.fresh M.new
end
end L2
namespace L2
open PySem PySem.Spec PyProof.Rows
def tMakeKS (C : Addr) (n m : Nat) (sp : Sp) (gV : List V → List V → List V) (E : St → XK) (t tk : TA) : TE := fun σ H Q => t σ H fun vs H1 => tk σ H1 fun zs H2 => vs.length = n ∧ zs.length = m ∧ ∀ x dx, H2 x = none → H2 dx = none → dx ≠ x →
 sp (gV (.ref x :: vs) zs) (upd (upd H2 dx (.own x)) x (.ins C dx [])) (fun v H3 => v = .non ∧ Q (.ref x) H3) (E σ)
section
variable {X : Cx} {CX : CXT} {k n : Nat} {f C : Addr} {fd : FuncData} {ps ks : List Str} {sp : Sp} {E : St → XK} {x : Str} {p pos : Pos} {e : Expr} {es : List Expr} {kws : List Keyword} {t tk : TA} {g : List Value → List Value → List Value} {gV : List V → List V → List V} {ds : List Value} {dvs : List V}
theorem run_makeKS {pins : List (Addr × Obj)} {σ : St} {H : Hp} {s : Shared} {Q : VK} {us ws : List Value} {vs zs : List V} (M : Mk X.K C f) (F : FnOk X.prog X.w X.K X.mg X.base CX k f fd ps sp) (hr : Room (k + 1) X.A) (hb : KBn X.K fd ps (n + 1) ks g gV) (hx : PassesAt CX X σ (E σ))
   (I : Inv X pins σ H s) (r : Vals vs us) (rz : Vals zs ws) (l1 : vs.length = n) (l2 : zs.length = ks.length)
   (h : ∀ x dx, H x = none → H dx = none → dx ≠ x → sp (gV (.ref x :: vs) zs) (upd (upd H dx (.own x)) x (.ins C dx [])) (fun v H2 => v = .non ∧ Q (.ref x) H2) (E σ)) :
   wpAny (model X.prog X.w) X.A (call (.ref C) us (ks.zip ws)) (EP X pins σ Q) X.xe s := by
 have hq := h (s.heap.objs.size + 1) s.heap.objs.size (I.hok.fresh (Nat.le_succ _)) (I.hok.fresh (Nat.le_refl _)) (Nat.ne_of_lt (Nat.lt_succ_self _))
 have I2 := Inv.made (C := C) I
 have r1 : Vals (V.ref (s.heap.objs.size + 1) :: vs) (Value.ref (s.heap.objs.size + 1) :: us) := .cons rfl r
 have r2 := hb.rel r1 rz
 have n1 : (Value.ref (s.heap.objs.size + 1) :: us).length = n + 1 := by
   rw [List.length_cons, ← r.length, l1]
 refine wpAny_call (make_map (f := f) I.kIn M.makes M.init (beq_iff_eq.mp M.fn) (codeAny_mono (F.run _ X.stack _ _ ⟨Value.ref (s.heap.objs.size + 1) :: us, ks.zip ws⟩ (g (Value.ref (s.heap.objs.size + 1) :: us) ws) _ _ (E σ) (hr.make C us (ks.zip ws))
   (I2.env0.make C us (ks.zip ws)) (hb.to _ (Value.ref (s.heap.objs.size + 1) :: us) ws I2.kIn n1 (rz.length.symm.trans l2)) r2 hq) fun r s' hq' => ?_))
 cases r with
 | error e => exact hx pins _ _ e s' I2 hq'
 | ok fl =>
   cases fl with
   | ret u =>
     obtain ⟨v, H', I3, rv, ev, q3⟩ := I2.after hq'
     subst ev
     exact ⟨rv, ⟨V.ref (s.heap.objs.size + 1), H', I3, rfl, q3⟩⟩
   | next => exact False.elim hq'
   | brk => exact False.elim hq'
   | cont => exact False.elim hq'
theorem pe_makeKS (M : Mk X.K C f) (F : FnOk X.prog X.w X.K X.mg X.base CX k f fd ps sp) (hr : Room (k + 1) X.A) (hg : Gl X x) (hm : X.mg x = some (.ref C)) (hb : KBn X.K fd ps (n + 1) ks g gV) (hx : ∀ σ, PassesAt CX X σ (E σ)) (ha : PA X (e :: es) t) (hkw : PK X kws tk)
   (hall : (backToKw pos (keywordEach kws X.env)).all (·.1.isSome) = true := by rfl) (hks : (backToKw pos (keywordEach kws X.env)).filterMap (·.1) = ks := by rfl) (hdb : (x == ("__debug__" : Str)) = false := by decide)
   (he : starEach (e :: es) X.env = (false, eval e X.env) :: starEach es X.env := by rfl) (hpl : ((backTo pos (starEach (e :: es) X.env)).any (·.1) || (backToKw pos (keywordEach kws X.env)).any (·.1.isNone)) = false := by rfl) :
   PE X (.Call (.Name x p) (e :: es) kws pos) (tMakeKS C n ks.length sp gV E t tk) := by
 refine ⟨fun pins s σ H Q I h => ?_⟩
 refine wpAny_Call_Name_kw (ld_glob I hg hm ?_ hdb)
 refine PySem.W.callWith_KW (h₀ := X.base) I.ok.mod.kin M.kp hall (thn (ha.run pos pins s σ H _ I h) fun us s1 ⟨vs, H1, I1, r, q⟩ => ?_) hpl he
 refine thn (hkw.run pos pins s1 σ H1 _ I1 q) fun ws s2 ⟨zs, H2, I2, rz, l1, l2, q2⟩ => ⟨I2.kIn, ?_⟩
 rw [hks]
 exact run_makeKS M F hr hb (hx σ) I2 r rz l1 l2 q2
end
structure XisC (K : PySem.W.Frag) (C : Addr) : Prop where
 cl : (PySem.W.clsIn K C).isSome = true
 ga : PySem.W.findIn K (.ref C) "__getattribute__" = some (some (.builtin "BaseException.__getattribute__"))
 gg : PySem.W.findIn K (.ref C) "__getattr__" = some none
 ex : PySem.W.subIn K (.ref C) (.type "BaseException") = some true
 ca : PySem.W.findIn K (.ref C) "__class__" = some (some (.builtin "object.__class__"))
 gt : PySem.W.specialIn K (.builtin "object.__class__") "__get__" = some (some (.builtin "getset_descriptor.__get__"))
 tk : PySem.W.takesIn K (.builtin "object.__class__") = some true
 ob : PySem.W.mroIn K C (.type "object") = some true
section
variable {X : Cx} {a C : Addr} {oe : Obj} {cls : Value} {d : Option Addr} {pn : List (Addr × Obj)} {K : PySem.W.Frag}
def rIsEd (K : PySem.W.Frag) (C a : Addr) (cls : Value) (d : Option Addr) : List V → Hp → VK → Prop := fun xs H Q => ∃ (dd : Addr) (fs : List (Str × V)) (c : V) (u : Value) (b : Bool), xs = [.ref a, c] ∧ cls = .ref C ∧ d = some dd ∧ H dd = some (.xd fs) ∧ ClsV c u ∧ PySem.W.kitOne K (.ref C) u = some b ∧ Q (.bl b) H
def rIsEt (K : PySem.W.Frag) (C a : Addr) (cls : Value) (d : Option Addr) : List V → Hp → VK → Prop := fun xs H Q => ∃ (dd : Addr) (fs : List (Str × V)) (tp : Addr) (cs : List V) (us : List Value) (b : Bool), xs = [.ref a, .ref tp] ∧ cls = .ref C ∧ d = some dd ∧ H dd = some (.xd fs) ∧ H tp = some (.tup cs) ∧
 Paired ClsV cs us ∧ PySem.W.kitAny K (.ref C) us = some b ∧ Q (.bl b) H
theorem exc_inst {pins : List (Addr × Obj)} {σ : St} {H : Hp} {s : Shared} {dd : Addr} {fs : List (Str × V)} (hz : Zc (.ref C) (some dd) oe) (hf : ∃ vs, oe.data = .fields vs) (I : Inv (X.suite a ((a, oe) :: pn)) pins σ H s) (ea : H dd = some (.xd fs)) :
   ∃ od, PySem.W.InstAt s.heap a oe C (some od) := by
 obtain ⟨ha, _⟩ := I.pin (a, oe) (List.mem_append_left _ List.mem_cons_self)
 obtain ⟨vs, hd⟩ := hf
 have hx : ObjOk X.prog X.w H s.heap dd (.xd fs) := I.hok dd _ ea
 obtain ⟨mA, hns, hr⟩ := hx
 obtain ⟨od, ho, hl⟩ := lookIn_ns hns
 exact ⟨od, ha, hz.1, by unfold PySem.W.notCls; rw [hd] <;> rfl, by rw [hz.2]; exact ho⟩
theorem call_isEd (T : XisC K C) (hz : Zc cls d oe) (hf : ∃ vs, oe.data = .fields vs) (eK : X.K = K := by rfl) : CallR (X.suite a ((a, oe) :: pn)) (.builtin "isinstance") (rIsEd K C a cls d) := by
 subst eK
 intro pins s σ H xs us Q I r h
 obtain ⟨dd, fs, c, u, b, rfl, rfl, rfl, ea, k, e, q⟩ := h
 obtain ⟨u1, u2, rfl, r1, r2⟩ := vals2 r
 have e2 := k.eq r2
 subst e2
 obtain rfl : u1 = Value.ref a := r1
 obtain ⟨od, J⟩ := exc_inst hz hf I ea
 exact PySem.W.kia_one (PySem.W.kitx_exc T.cl T.ga T.gg T.ex T.ca T.gt T.tk T.ob) I.kIn J e (fun z => nomatch z) fun tk => ⟨.bl b, H, I.tok tk, rfl, q⟩
theorem call_isEt (T : XisC K C) (hz : Zc cls d oe) (hf : ∃ vs, oe.data = .fields vs) (eK : X.K = K := by rfl) : CallR (X.suite a ((a, oe) :: pn)) (.builtin "isinstance") (rIsEt K C a cls d) := by
 subst eK
 intro pins s σ H xs us Q I r h
 obtain ⟨dd, fs, tp, cs, ws, b, rfl, rfl, rfl, ea, hT, k, e, q⟩ := h
 obtain ⟨u1, u2, rfl, r1, r2⟩ := vals2 r
 cases (show u2 = Value.ref tp from r2)
 obtain rfl : u1 = Value.ref a := r1
 obtain ⟨od, J⟩ := exc_inst hz hf I ea
 obtain ⟨_, its, rv, o, h1, h2, n, h3⟩ := (show ObjOk X.prog X.w H s.heap tp (.tup cs) from I.hok tp _ hT)
 have e3 := ClsV.all k rv
 subst e3
 obtain ⟨oc, od', dt, sl⟩ := o
 simp only at h2 h3
 subst h2 h3
 exact PySem.W.kia_tup (PySem.W.kitx_exc T.cl T.ga T.gg T.ex T.ca T.gt T.tk T.ob) I.kIn J h1 e (fun z => nomatch z) fun tk => ⟨.bl b, H, I.tok tk, rfl, q⟩
theorem take0 {X : Cx} : Takes X (fun _ _ _ _ => False) := fun _ _ x => by
 obtain ⟨a, B, sI, pins, σ, H, cls, d, _, _, _, _, _, _, _, _, w⟩ := x
 exact w.elim
end
end L2
namespace G
open PySem PySem.Spec PyProof.Rows L2
structure CalIX (P : Program) (w : World) (K : PySem.W.Frag) (mg : Str → Option Value) (C : Addr) (qual : Str) (st : Stmt) (kws : List (Str × V)) (ps : List Str) (k : Nat) (sp : Sp) : Prop where
 ex : ∃ f fd, Mk K C f ∧ FunD K "__init__" qual (defArgs st) (defBody st) (defScope st) [] kws f fd ∧ ∀ base : Heap, FnOk P w K mg base (L2.CX P w) k f fd ps sp
section
variable {K : PySem.W.Frag} {σ : L2.St} {H : Hp} {Q : VK} {C : Addr} {D : Ends} {t2 : TS} {te : TE} {a dd : Addr} {fs : List (Str × V)}
theorem w_makeKS {n k : Nat} {sp : Sp} {gV : List V → List V → List V} {E : L2.St → XK} {t tk : TA} (h : t σ H fun vs H1 => tk σ H1 fun zs H2 => vs.length = n ∧ zs.length = k ∧ MakeG C sp (E σ) (fun x => gV (x :: vs) zs) H2 Q) : tMakeKS C n k sp gV E t tk σ H Q := h
theorem q_raise {y : List Nat} {W : WX} (h : Val te σ H (.str (toS y))) (hl : y.length ≤ 1000000) (k : ∀ d, H d = none → W (.ref C) (some d) σ (upd H d (.xd [(("part" : Str), .str (toS y))]))) :
   tSeq (fun _ σ H => tMkErr C (tCons te tNil) σ H fun cls d H' => W cls d σ H') t2 D σ H :=
 h _ ⟨toS y, rfl, by rw [toS_len]; exact hl, k⟩
theorem q_try {t : TS} (h : t { D with nx := t2 D } σ H) : tSeq t t2 D σ H := h
theorem w_exc {c : Value} {i : Nat} {ts : Addr → Value → Option Addr → TS} {Wout : WX} {d : Option Addr} (e : PySem.W.exmOne K (.ref C) c = some true)
   (k : ∀ a, H a = none → ts a (.ref C) d { nx := fun σ' H' => D.nx (σ'.set i none) H', rt := D.rt, bk := fun σ' H' => D.bk (σ'.set i none) H', ct := fun σ' H' => D.ct (σ'.set i none) H' } (σ.set i (some (.ref a))) H) : WE (wAs K c i ts Wout D) σ (.ref C) d H :=
 ⟨true, e, fun _ a na => k a na, fun z => nomatch z⟩
theorem lk_part {v : V} : List.lookup ("part" : Str) [(("part" : Str), v)] = some v := by simp [List.lookup]
theorem val_xf {y : List Nat} (h : Val te σ H (.ref a)) (hd : H dd = some (.xd [(("part" : Str), .str (toS y))])) : Val (tXf a (.ref C) (some dd) C "part" te) σ H (.str (toS y)) := fun Q q =>
 h _ ⟨rfl, rfl, dd, _, _, rfl, hd, lk_part, q⟩
theorem val_isE {c : V} {u : Value} {b : Bool} (h : Val te σ H (.ref a)) (hd : H dd = some (.xd fs)) (k : ClsV c u) (e : PySem.W.kitOne K (.ref C) u = some b) : Val (tCB (rIsEd K C a (.ref C) (some dd)) (tCons te (tCons (tC c) tNil))) σ H (.bl b) := fun Q q =>
 h _ ⟨dd, fs, c, u, b, rfl, rfl, rfl, hd, k, e, q⟩
theorem q_isT {ta : TA} {cs : List V} {us : List Value} {t1 t3 : TS} (h : Val te σ H (.ref a)) (hd : H dd = some (.xd fs)) (hv : VaA ta σ H cs) (k : Paired ClsV cs us) (e : PySem.W.kitAny K (.ref C) us = some false) (hl : cs.length ≤ 100)
   (kk : ∀ H', Chg [] H H' → H' dd = some (.xd fs) → t3 { D with nx := t2 D } σ H') : tSeq (tIfS (tB (tCB (rIsEt K C a (.ref C) (some dd)) (tCons te (tCons (tTup ta) tNil)))) t1 t3) t2 D σ H := by
 refine h _ (hv _ ⟨by rw [sizeLine_eq]; omega, fun p hp => ?_⟩)
 have hne : dd ≠ p := fun z => by rw [z, hp] at hd; cases hd
 have hd' : (upd H p (.tup cs)) dd = some (.xd fs) := by rw [upd_ne hne]; exact hd
 refine ⟨dd, fs, p, cs, us, false, rfl, rfl, rfl, hd', upd_same, k, e, ?_⟩
 exact ⟨false, rfl, kk _ (Chg.lay hp trivial) hd'⟩
theorem cp_cons {cs : List V} {us : List Value} {A : Addr} (h : Paired ClsV cs us) : Paired ClsV (.ref A :: cs) (.ref A :: us) := .cons (.own A) h
end
end G
namespace G
open PySem PySem.Spec PyProof.Rows L2
abbrev FnN : Type := Option (Str × Str × Arguments × FuncBody × Scope × Addr × List Str × Addr)
def fnN (K : PySem.W.Frag) (p : Str × Option Str) : FnN := match K.lookup (He.fAd K p) with
 | some ⟨_, _, .func fd, _⟩ => some (fd.name, fd.qualname, fd.params, fd.body, fd.scope, fd.globals, fd.closure.map (·.1), fd.builtins)
 | _ => none
structure ErrD where
 x : Str
 qual : Str
 st : Stmt
def ErrD.val (d : ErrD) : FnN := some ("__init__", d.qual, defArgs d.st, .stmts (defBody d.st), defScope d.st, mainGlobals, ["__class__"], builtinsNs)
def excB (K : PySem.W.Frag) (C : Addr) : Bool := match K.lookup C with
 | some ⟨.type c, _, .cls cd, sl⟩ => decide (c = "type") && (match cd.mro with
   | v :: bm => decide (v = .ref C) && refsVEb bm
   | _ => false) && cd.hasDict && !cd.hasDel && (match sl.toList with
   | [_, _, _, _, some (.builtin i), _] => decide (i = "ValueError.__new__")
   | _ => false)
 | _ => false
where refsVEb (l : List Value) : Bool := PySem.HandSPX.refsVE l
theorem excB_ok {K : PySem.W.Frag} {C : Addr} (h : excB K C = true) : ∃ nm q N bs bm sn sub ab col dd k0 k1 k2 k3 k5, K.lookup C = some (excClassObj nm q C N bs bm true sn sub ab col dd k0 k1 k2 k3 k5 "ValueError.__new__") ∧ PySem.HandSPX.refsVE bm = true := by
 unfold excB at h
 cases e : K.lookup C with
 | none => rw [e] at h; cases h
 | some o =>
   obtain ⟨oc, od, dt, sl⟩ := o
   rw [e] at h
   cases oc with
   | type c =>
     cases dt with
     | cls cd =>
       obtain ⟨h, h5⟩ := He.ba h
       obtain ⟨h, h4⟩ := He.ba h
       obtain ⟨h, h3⟩ := He.ba h
       obtain ⟨h1, h2⟩ := He.ba h
       obtain ⟨nm, bs, mro, ns, qn, hdc, sn, sub, ab, col, hdl⟩ := cd
       have e1 : c = "type" := of_decide_eq_true h1
       subst e1
       cases mro with
       | nil => cases h2
       | cons v bm =>
         obtain ⟨h6, h7⟩ := He.ba h2
         have e6 := of_decide_eq_true h6
         subst e6
         have e3 : hdc = true := h3
         subst e3
         have e4 : hdl = false := by cases hdl with
           | false => rfl
           | true => cases h4
         subst e4
         obtain ⟨sl⟩ := sl
         rcases sl with _ | ⟨k0, _ | ⟨k1, _ | ⟨k2, _ | ⟨k3, _ | ⟨k4, _ | ⟨k5, _ | ⟨k6, _⟩⟩⟩⟩⟩⟩⟩
         all_goals try (cases h5; done)
         all_goals try (cases k4 with | none => cases h5 | some v4 => cases v4 <;> cases h5)
         cases k4 with
         | none => cases h5
         | some v4 =>
           cases v4 with
           | builtin i =>
             have e5 : i = "ValueError.__new__" := of_decide_eq_true h5
             subst e5
             exact ⟨nm, qn, ns, bs, bm, sn, sub, ab, col, od, k0, k1, k2, k3, k5, rfl, h7⟩
           | _ => cases h5
     | _ => cases h
   | _ => cases dt <;> cases h
def valB (v w : Option (Option Value)) : Bool := decide (v = w)
def errC (K : PySem.W.Frag) (C fI : Addr) : Bool :=
 excB K C && (valB (PySem.W.findIn K (.ref C) "__setattr__") (some (some (.builtin "object.__setattr__"))) && (valB (PySem.W.findIn K (.ref C) "__getattribute__") (some (some (.builtin "BaseException.__getattribute__"))) &&
 (valB (PySem.W.findIn K (.ref C) "__getattr__") (some none) && (valB (PySem.W.findIn K (.ref C) "part") (some none) && (valB (PySem.W.findIn K (.ref C) "__init__") (some (some (.ref fI))) &&
 (decide (PySem.W.typeIn K (.ref fI) = some (.type "function")) && (PySem.W.keepIn K (.ref C) && (decide (PySem.W.subIn K (.ref C) (.type "BaseException") = some true) && (decide (PySem.W.subIn K (.ref C) (.type "ValueError") = some true) &&
 (decide (PySem.W.typeIn K (.ref C) = some (.type "type")) && (PySem.W.hasDictIn K C && (decide (PySem.W.mroIn K C (.ref C) = some true) && (valB (PySem.W.ks_superIn K C C "__init__") (some (some (.builtin "ValueError.__init__"))) &&
 (valB (PySem.W.nsIn K cStatics "thirdparty.any") (some none) && ((PySem.W.clsIn K C).isSome && (valB (PySem.W.findIn K (.ref C) "__class__") (some (some (.builtin "object.__class__"))) &&
 (valB (PySem.W.specialIn K (.builtin "object.__class__") "__get__") (some (some (.builtin "getset_descriptor.__get__"))) && (decide (PySem.W.takesIn K (.builtin "object.__class__") = some true) && decide (PySem.W.mroIn K C (.type "object") = some true)))))))))))))))))))
def fileB (file : Str) : Option Value → Bool
 | some (.str f _) => file == f
 | _ => false
def errF (K : PySem.W.Frag) (C fI : Addr) (qual file : Str) : Bool := match K.lookup fI with
 | some ⟨_, _, .func fd, _⟩ => (match fd.defaults, fd.kwdefaults, fd.closure, fd.code with
   | .none, .none, [(_, cc)], .ref cda => PySem.W.codeIn K (.ref cda) qual && ((match K.lookup cda with
     | some ⟨_, _, .fields vs, _⟩ => fileB file vs[2]?
     | _ => false) && (match K.lookup cc with
     | some ⟨_, _, .cell (some v), _⟩ => decide (v = .ref C)
     | _ => false))
   | _, _, _, _ => false)
 | _ => false
def ErrD.ok (K : PySem.W.Frag) (file : Str) (d : ErrD) : Bool := errC K (He.ga K d.x) (He.fAd K (d.x, some "__init__")) && errF K (He.ga K d.x) (He.fAd K (d.x, some "__init__")) d.qual file
theorem errF_ok {K : PySem.W.Frag} {C : Addr} {p : Str × Option Str} {file : Str} {d : ErrD} (e : fnN K p = d.val) (h : errF K C (He.fAd K p) d.qual file = true) :
   ∃ (oc : Value) (od : Option Addr) (doc pm : Value) (an : Option Addr) (cda : Addr) (ct : Value) (cc : Addr) (osl : Array (Option Value)),
   K.lookup (He.fAd K p) = some ⟨oc, od, .func (PySem.W.ksFn "__init__" d.qual (L2.defArgs d.st) (L2.defBody d.st) (L2.defScope d.st) .none .none doc pm an (.ref cda) ct cc), osl⟩ ∧ PySem.W.codeIn K (.ref cda) d.qual = true ∧
   (∃ (ccl : Value) (cdd : Option Addr) (vs : Array Value) (ccs : Array (Option Value)) (file' : Str) (tf : Tok), K.lookup cda = some ⟨ccl, cdd, .fields vs, ccs⟩ ∧ vs[2]? = some (.str file' tf) ∧ (file == file') = true) ∧
   ∃ (cl : Value) (cld : Option Addr) (csl : Array (Option Value)), K.lookup cc = some ⟨cl, cld, .cell (some (.ref C)), csl⟩ := by
 unfold errF at h
 unfold fnN at e
 cases q : K.lookup (He.fAd K p) with
 | none => rw [q] at h; cases h
 | some o =>
   obtain ⟨oc, od, dt, osl⟩ := o
   rw [q] at h e
   cases dt with
   | func fd =>
     obtain ⟨n1, n2, n3, n4, n5, n6, n7, n8, n9, n10, n11, n12, n13, n14, n15⟩ := fd
     have e2 : (some (n1, n2, n3, n4, n5, n6, n7.map (·.1), n15) : FnN) = some (("__init__" : Str), d.qual, defArgs d.st, FuncBody.stmts (defBody d.st), defScope d.st, mainGlobals, [("__class__" : Str)], builtinsNs) := e
     simp only [Option.some.injEq, Prod.mk.injEq] at e2
     obtain ⟨h1, h2, h3, h4, h5, h6, h7, h8⟩ := e2
     subst h1 h2 h3 h4 h5 h6 h8
     cases n8 with
     | none =>
       cases n9 with
       | none =>
         rcases n7 with _ | ⟨⟨nc, cc⟩, _ | ⟨_, _⟩⟩
         · cases h
         · cases n13 with
           | ref cda =>
             have en : nc = ("__class__" : Str) := by
               have z : [nc] = [("__class__" : Str)] := h7
               exact (List.cons.inj z).1
             subst en
             obtain ⟨c1, c2⟩ := He.ba h
             obtain ⟨c3, c4⟩ := He.ba c2
             refine ⟨oc, od, n10, n11, n12, cda, n14, cc, osl, rfl, c1, ?_, ?_⟩
             · cases q2 : K.lookup cda with
               | none => rw [q2] at c3; cases c3
               | some o2 =>
                 obtain ⟨a1, a2, a3, a4⟩ := o2
                 rw [q2] at c3
                 cases a3 with
                 | fields vs =>
                   have c5 : fileB file vs[2]? = true := c3
                   cases q3 : vs[2]? with
                   | none => rw [q3] at c5; cases c5
                   | some v =>
                     rw [q3] at c5
                     cases v with
                     | str f t => exact ⟨a1, a2, vs, a4, f, t, rfl, q3, c5⟩
                     | _ => cases c5
                 | _ => cases c3
             · cases q2 : K.lookup cc with
               | none => rw [q2] at c4; cases c4
               | some o2 =>
                 obtain ⟨a1, a2, a3, a4⟩ := o2
                 rw [q2] at c4
                 cases a3 with
                 | cell v =>
                   cases v with
                   | none => cases c4
                   | some v =>
                     have z : v = .ref C := of_decide_eq_true c4
                     subst z
                     exact ⟨a1, a2, a4, rfl⟩
                 | _ => cases c4
           | _ => cases h
         · cases h
       | _ => cases h
     | _ => cases n9 <;> cases h
   | _ => cases h
structure ErrK (K : PySem.W.Frag) (C : Addr) : Prop where
 xf : XfC K C
 xi : XisC K C
 np : PySem.W.findIn K (.ref C) "part" = some none
 ty : PySem.W.typeIn K (.ref C) = some (.type "type")
theorem err_of {P : Program} {K : PySem.W.Frag} {mg : Str → Option Value} {h : Heap} (X : K.In h) (G : h.Ns mainGlobals mg) {d : ErrD} {file : Str} (e : fnN K (d.x, some "__init__") = d.val) (c : d.ok K file = true) (g : (He.Fa.glo d.x).ok K = true) (s : (He.Fa.free "super").ok K = true)
   (top : (P.main.scope.names.lookup ("super" : Str)).isSome = false) (hf : (P.main.file : Str) = file)
   (shape : ∃ (msg : Str) (r1 r2 p0 p1 p2 p3 p4 p5 p6 p7 q1 q2 q3 q4 : Pos), L2.defArgs d.st = PySem.ErrX.eA r1 r2 ∧ L2.defBody d.st = PySem.ErrX.eB msg p0 p1 p2 p3 p4 p5 p6 p7 q1 q2 q3 q4 ∧ L2.defScope d.st = PySem.ErrX.eS ∧ msg.length ≤ 100 ∧
   ∀ L f cda cc : Addr, ∃ pl : Sem Bool, eval (.Call (.Attribute (.Call (.Name "super" p0) [] [] p1) "__init__" p2) [.BinOp (.Constant (.str msg) 0 p3) .Add (.Name "part" p4) p5] [] p6) (PySem.W.ksEnv d.qual PySem.ErrX.eS L f (.ref cda) cc) = (do
     let ov ← attributeBase (.Call (.Name "super" p0) [] [] p1) "__init__" (PySem.W.ksEnv d.qual PySem.ErrX.eS L f (.ref cda) cc) (eval (.Call (.Name "super" p0) [] [] p1) (PySem.W.ksEnv d.qual PySem.ErrX.eS L f (.ref cda) cc))
     standAt p2.atName
     let (f', first) ← holding [ov] (getMethod ov "__init__" pl)
     callWith p6 f' first (backTo p6 (starEach [.BinOp (.Constant (.str msg) 0 p3) .Add (.Name "part" p4) p5] (PySem.W.ksEnv d.qual PySem.ErrX.eS L f (.ref cda) cc))) [])) :
   PySem.ErrX.ErrTxt P K mg d.x d.qual d.st (He.ga K d.x) (He.fAd K (d.x, some "__init__")) ∧ ErrK K (He.ga K d.x) := by
 obtain ⟨c1, c2⟩ := He.ba c
 obtain ⟨a1, c1⟩ := He.ba c1
 obtain ⟨a2, c1⟩ := He.ba c1
 obtain ⟨a3, c1⟩ := He.ba c1
 obtain ⟨a4, c1⟩ := He.ba c1
 obtain ⟨a5, c1⟩ := He.ba c1
 obtain ⟨a6, c1⟩ := He.ba c1
 obtain ⟨a7, c1⟩ := He.ba c1
 obtain ⟨a8, c1⟩ := He.ba c1
 obtain ⟨a9, c1⟩ := He.ba c1
 obtain ⟨a10, c1⟩ := He.ba c1
 obtain ⟨a11, c1⟩ := He.ba c1
 obtain ⟨a12, c1⟩ := He.ba c1
 obtain ⟨a13, c1⟩ := He.ba c1
 obtain ⟨a14, c1⟩ := He.ba c1
 obtain ⟨a15, c1⟩ := He.ba c1
 obtain ⟨a16, c1⟩ := He.ba c1
 obtain ⟨a17, c1⟩ := He.ba c1
 obtain ⟨a18, c1⟩ := He.ba c1
 obtain ⟨a19, a20⟩ := He.ba c1
 subst hf
 obtain ⟨oc, od, doc, pm, an, cda, ct, cc, osl, ho, hcd, hcode, hcell⟩ := errF_ok e c2
 exact ⟨⟨He.glo_ok X G g, excB_ok a1, of_decide_eq_true a2, of_decide_eq_true a3, of_decide_eq_true a4, of_decide_eq_true a5, of_decide_eq_true a6, of_decide_eq_true a7, a8, of_decide_eq_true a9, of_decide_eq_true a10, of_decide_eq_true a11, a12, of_decide_eq_true a13, of_decide_eq_true a14, of_decide_eq_true a15,
   He.free_ok X G s, top, ⟨oc, od, doc, pm, an, cda, ct, cc, osl, ho, hcd, hcode, hcell⟩, shape⟩,
   ⟨⟨of_decide_eq_true a3, of_decide_eq_true a4, of_decide_eq_true a9, a12⟩, ⟨a16, of_decide_eq_true a3, of_decide_eq_true a4, of_decide_eq_true a9, of_decide_eq_true a17, of_decide_eq_true a18, of_decide_eq_true a19, of_decide_eq_true a20⟩, of_decide_eq_true a5, of_decide_eq_true a11⟩⟩
abbrev AlX : Type := He.AlD × Bool × List FnN
structure SaysX (fa : List He.Fa) (fn : List He.DefD) (ex : PySem.W.Frag → Bool) (file : Str) (er : List ErrD) (K : PySem.W.Frag) : Prop where
 d : He.SaysD fa fn K
 e : ex K = true
 a : er.all (fun d => d.ok K file) = true
 m : (er.map fun d => fnN K (d.x, some "__init__")) = er.map ErrD.val
theorem SaysX.err {fa : List He.Fa} {fn : List He.DefD} {ex : PySem.W.Frag → Bool} {file : Str} {er : List ErrD} {K : PySem.W.Frag} (c : SaysX fa fn ex file er K) (i : Nat) {d : ErrD} (h : er[i]? = some d := by rfl) : fnN K (d.x, some "__init__") = d.val ∧ d.ok K file = true := by
 refine ⟨?_, List.all_eq_true.mp c.a d (List.mem_of_getElem? h)⟩
 have e2 : (er.map fun d => fnN K (d.x, some "__init__"))[i]? = (er.map ErrD.val)[i]? := by rw [c.m]
 rw [List.getElem?_map, List.getElem?_map, h] at e2
 exact Option.some.inj e2
end G
namespace G
open PySem PySem.Spec PyProof.Rows L2
section
variable {K : PySem.W.Frag} {H : Hp} {F : List Addr} {v : V}
variable {x y : Option (List Nat)} {u : V} {F1 F2 : List Addr} {Q : VK}
theorem opt_cases (r : (yOpt yStr).rep K H F v x) : (x = none ∧ v = .non) ∨ ∃ s, x = some s ∧ v = .str (toS s) := by
 cases x with
 | none => exact .inl ⟨rfl, r.2⟩
 | some s =>
   obtain ⟨_, e⟩ := opt_str r rfl
   exact .inr ⟨s, rfl, e⟩
theorem opt_eq (r : (yOpt yStr).rep K H F1 v x) (q : (yOpt yStr).rep K H F2 u y) : scal v u = true ∧ decide (v = u) = decide (x = y) := by
 rcases opt_cases r with ⟨rfl, rfl⟩ | ⟨s, rfl, rfl⟩
 · rcases opt_cases q with ⟨rfl, rfl⟩ | ⟨t, rfl, rfl⟩
   · exact ⟨rfl, by simp⟩
   · exact ⟨rfl, by simp⟩
 · rcases opt_cases q with ⟨rfl, rfl⟩ | ⟨t, rfl, rfl⟩
   · exact ⟨rfl, by simp⟩
   · refine ⟨rfl, ?_⟩
     by_cases e : s = t
     · subst e; simp
     · have e1 : ¬ (V.str (toS s) = V.str (toS t)) := fun z => e (toS_inj (V.str.inj z))
       have e2 : ¬ (some s = some t) := fun z => e (Option.some.inj z)
       rw [decide_eq_false e1, decide_eq_false e2]
theorem w_eqOS (r : (yOpt yStr).rep K H F1 v x) (q : (yOpt yStr).rep K H F2 u y) (k : Q (.bl (decide (x = y))) H) : rEq v u H Q := by
 obtain ⟨h1, h2⟩ := opt_eq r q
 exact ⟨h1, by rw [h2]; exact k⟩
theorem w_neOS (r : (yOpt yStr).rep K H F1 v x) (q : (yOpt yStr).rep K H F2 u y) (k : Q (.bl (!decide (x = y))) H) : rNe v u H Q := by
 obtain ⟨h1, h2⟩ := opt_eq r q
 exact ⟨h1, by rw [h2]; exact k⟩
end
end G
namespace L2
open PySem PySem.Spec PyProof.Rows
section
variable {X : Cx} {e : Expr} {te : TE} {pos p1 p2 : Pos} {cs : List MatchCase} {tm tr : Str → TS} {tb : TS} {body : List Stmt} {c : Str} {j : Option Str}
end
end L2
namespace G
open PySem PySem.Spec PyProof.Rows L2
section
variable {K : PySem.W.Frag} {σ : L2.St} {H : Hp} {F : List Addr} {v : V} {Q : VK} {D : Ends} {t2 tb : TS} {te : TE} {tm tr : Str → TS} {α β : Type} {τ : Ty α} {υ : Ty β}
def ySum (τ : Ty α) (υ : Ty β) : Ty (α ⊕ β) where
 rep K H F v d := match d with
   | .inl a => τ.rep K H F v a
   | .inr b => υ.rep K H F v b
 keep {K H H' F v d} h k := by
   cases d with
   | inl a => exact τ.keep h k
   | inr b => exact υ.keep h k
 dom {K H F v d} h b m := by
   cases d with
   | inl a => exact τ.dom h b m
   | inr c => exact υ.dom h b m
theorem sum_l {a : α} (r : τ.rep K H F v a) : (ySum τ υ).rep K H F v (.inl a) := r
theorem sum_r {b : β} (r : υ.rep K H F v b) : (ySum τ υ).rep K H F v (.inr b) := r
theorem sum_L {d : α ⊕ β} {a : α} (r : (ySum τ υ).rep K H F v d) (h : Mi.asL d = some a) : τ.rep K H F v a := by
 cases d with
 | inl x => cases h; exact r
 | inr x => cases h
theorem sum_R {d : α ⊕ β} {b : β} (r : (ySum τ υ).rep K H F v d) (h : Mi.asR d = some b) : υ.rep K H F v b := by
 cases d with
 | inl x => cases h
 | inr x => cases h; exact r
end
end G
namespace L2
open PySem PySem.Spec PyProof.Rows
section
variable {X : Cx} {cs : List MatchCase} {tr : Str → TS} {tb : TS} {body : List Stmt} {c d : Str} {p1 p2 p3 p4 p5 : Pos}
end
end L2
namespace G
open PySem PySem.Spec PyProof.Rows L2
section
variable {K : PySem.W.Frag} {σ : L2.St} {H : Hp} {F F1 F2 : List Addr} {v u : V} {Q : VK} {te ta tb : TE} {α β : Type} {τ : Ty α} {υ : Ty β}
end
end G
namespace L2
open PySem PySem.Spec PyProof.Rows
section
variable {X : Cx} {cs : List MatchCase} {tr : V → TS} {tb : TS} {body : List Stmt} {c : Str} {p1 p2 p3 pos : Pos} {e : Expr} {te : TE} {tm : V → TS}
theorem pr_len {α β : Type} {R : α → β → Prop} {l : List α} {m : List β} (h : Paired R l m) : l.length = m.length := by
 induction h with
 | nil => rfl
 | cons _ _ ih => rw [List.length_cons, List.length_cons, ih]
end
end L2
namespace G
open PySem PySem.Spec PyProof.Rows L2
section
variable {K : PySem.W.Frag} {σ : L2.St} {H : Hp} {F F1 F2 : List Addr} {v u : V} {Q : VK} {D : Ends} {t2 tb : TS} {te ta tc : TE} {tm tr : V → TS} {α : Type} {τ : Ty α}
abbrev y2 : Ty (Int ⊕ Bool) := ySum yInt yBool
end
end G
namespace G
open PySem PySem.Spec PyProof.Rows L2
def FrzG (Q : VK) (x : V) (H1 : Hp) : Prop := ∃ a xs, x = .ref a ∧ H1 a = some (.lst xs) ∧ ∀ o, Q x (upd H1 a (.frz o (.lst xs)))
def tFrz (te : TE) : TE := fun σ H Q => te σ H (FrzG Q)
theorem pe_frz {X : Cx} {e : Expr} {te : TE} (he : PE X e te) : PE X e (tFrz te) := by
 refine ⟨fun pins s σ H Q I h => ?_⟩
 refine thn (he.run pins s σ H _ I h) fun u s1 ⟨x, H1, I1, r1, a, xs, ex, ha, q⟩ => ?_
 obtain ⟨z, its, n, rv, e⟩ := (show ObjOk X.prog X.w H1 s1.heap a (.lst xs) from I1.hok a _ ha)
 refine ⟨x, upd H1 a (.frz _ (.lst xs)), ?_, r1, q { cls := .type "list", data := .seq its.toArray n }⟩
 have ne : ∀ b u, H1 b = some u → u ≠ .lst xs → b ≠ a := fun b u hb hu z => by rw [z, ha] at hb; exact hu (Option.some.inj hb).symm
 refine I1.un (t' := s1.toks) (h' := s1.heap) ⟨fun b o q _ _ _ => q, fun b o q _ _ _ => ⟨o.slots, q⟩, fun b o q n _ => ?_, fun b o q _ => ⟨o, q⟩, fun b ys q => ?_, fun b o u q => ?_, fun b ps q => ⟨#[], ?_⟩⟩ fun b u q => ?_
 · rw [upd_ne (fun z => by rw [z, ha] at n; cases n)]; exact n
 · rw [upd_ne (ne b _ q (fun z => nomatch z))]; exact q
 · rw [upd_ne (ne b _ q (fun z => nomatch z))]; exact q
 · rw [upd_ne (ne b _ q (fun z => nomatch z)), q]; simp
 · by_cases hb : b = a
   · subst hb; rw [upd_same] at q; cases q
     exact ⟨e, z, its, n, rv, e⟩
   · rw [upd_ne hb] at q
     exact (I1.hok b u q).stay (fun c v _ q => q) (fun c q => by rw [upd_ne (ne c _ q (fun z => nomatch z))]; exact q) fun c ys q => by rw [upd_ne (ne c _ q (fun z => nomatch z))]; exact q
def yFl {α : Type} (τ : Ty α) : Ty (List α) where
 rep K H F v xs := F = [] ∧ ∃ a vs o, v = .ref a ∧ H a = some (.frz o (.lst vs)) ∧ Paired (fun u x => τ.rep K H [] u x) vs xs
 keep {K H H' F v xs} h k := by
   obtain ⟨f, a, vs, o, e, g, r⟩ := h
   exact ⟨f, a, vs, o, e, k a _ g (.inr trivial), Paired.mapP r fun u x q => τ.keep q fun b o hb z => k b o hb (z.elim (fun y => nomatch y) .inr)⟩
 dom {K H F v xs} h b m := by
   rw [h.1] at m; cases m
section
variable {K : PySem.W.Frag} {σ σ' : L2.St} {H : Hp} {F F1 F2 Fu : List Addr} {ta tb te : TE} {tt : TT} {v u x y : V} {i j : Int} {α β : Type} {τ : Ty α} {υ : Ty β} {Q : VK} {D : Ends} {t1 t2 : TS} {g : TG} {ws : List Nat}
theorem w_frz (h : te σ H (FrzG Q)) : tFrz te σ H Q := h
theorem e_frz {xs : List α} (r : (yLst τ).rep K H F v xs) (k : ∀ H', Chg F H H' → (yFl τ).rep K H' [] v xs → Q v H') : FrzG Q v H := by
 obtain ⟨a, vs, e, f, g, q⟩ := r
 subst f
 have c : ∀ o, Chg [a] H (upd H a (.frz o (.lst vs))) := fun o => Chg.wr g (fun z => z)
 exact ⟨a, vs, e, g, fun o => k _ (c o) ⟨rfl, a, vs, o, e, upd_same, Paired.mapP q fun u x z => Ty.fz z (c o)⟩⟩
theorem fl_sq {xs : List α} (r : (yFl τ).rep K H F v xs) : ∃ a vs, v = .ref a ∧ SqL K H a vs ∧ Paired (fun u x => τ.rep K H [] u x) vs xs := by
 obtain ⟨f, a, vs, o, e, g, q⟩ := r
 exact ⟨a, vs, e, .inl (.inr ⟨o, g⟩), q⟩
theorem val_lenF {xs : List α} (r : (yFl τ).rep K H F v xs) (ha : Val ta σ H v) : Val (tCB (rLenQ K) (tCons ta tNil)) σ H (.int (xs.length : Int)) := by
 obtain ⟨a, vs, e, s, q⟩ := fl_sq r
 subst e
 exact fun Q k => ha _ ⟨a, vs, rfl, .inl s, by rw [pr_len q]; exact k⟩
theorem itm_F {xs : List α} {x : α} (r : (yFl τ).rep K H F v xs) (h : Mi.at_ xs i = some x) :
   ∃ u, τ.rep K H [] u x ∧ ∀ {σ : L2.St} {ta tb : TE}, Val ta σ H v → Val tb σ H (.int i) → Val (tOp (rIxL K) ta tb) σ H u := by
 obtain ⟨a, vs, e, s, q⟩ := fl_sq r
 subst e
 obtain ⟨u, e, ru⟩ := pr_at q h
 exact ⟨u, ru, fun ha hb => val_op ha hb fun Q k => ⟨a, vs, i, u, rfl, rfl, s, e, k⟩⟩
theorem itm_FI {xs : List Int} {x : Int} (r : (yFl yInt).rep K H F v xs) (h : Mi.at_ xs i = some x) {σ : L2.St} {ta tb : TE} (ha : Val ta σ H v) (hb : Val tb σ H (.int i)) : Val (tOp (rIxL K) ta tb) σ H (.int x) := by
 obtain ⟨u, ⟨_, rfl⟩, k⟩ := itm_F r h
 exact k ha hb
theorem w_cutF {xs : List α} {lo hi : Option Int} (r : (yFl τ).rep K H F v xs) (k : ∀ p H', H p = none → Chg [] H H' → (yLst τ).rep K H' [p] (.ref p) (Mi.cut xs lo hi) → Q (.ref p) H') : rSlL K v lo hi H Q := by
 obtain ⟨p, vs, rfl, s, q⟩ := fl_sq r
 refine ⟨p, vs, rfl, s, fun n nn => k n _ nn (Chg.lay nn trivial) ⟨n, _, rfl, rfl, upd_same, ?_⟩⟩
 exact Paired.mapP (pr_cut q lo hi) fun _ _ z => Ty.ex z (Chg.lay nn trivial)
theorem w_listF {xs : List α} (r : (yFl τ).rep K H F v xs) (k : ∀ p H', H p = none → Chg [] H H' → (yLst τ).rep K H' [p] (.ref p) xs → Q (.ref p) H') : rListQ K [v] H Q := by
 obtain ⟨p, vs, rfl, s, q⟩ := fl_sq r
 exact ⟨p, vs, rfl, .inl s, fun n nn => k n _ nn (Chg.lay nn trivial) ⟨n, _, rfl, rfl, upd_same, Paired.mapP q fun _ _ z => Ty.ex z (Chg.lay nn trivial)⟩⟩
theorem w_tupleF {xs : List α} (r : (yFl τ).rep K H F v xs) (k : ∀ v H', Chg [] H H' → (yTupL τ).rep K H' [] v xs → Q v H') : rTupleQ K [v] H Q := by
 obtain ⟨p, vs, rfl, s, q⟩ := fl_sq r
 exact ⟨p, vs, rfl, .inl ⟨s, fun n nn => k _ _ (Chg.lay nn trivial) ⟨n, _, rfl, rfl, .inl (.inl upd_same), Paired.mapP q fun _ _ z => Ty.ex z (Chg.lay nn trivial)⟩⟩⟩
theorem ints_sqF {xs : List Int} (r : (yFl yInt).rep K H F v xs) : ∃ a, v = .ref a ∧ SqL K H a (xs.map V.int) := by
 obtain ⟨a, vs, e, s, q⟩ := fl_sq r
 rw [ints_of q] at s
 exact ⟨a, e, s⟩
theorem w_sortedF {xs : List Int} (r : (yFl yInt).rep K H F v xs) (k : ∀ p H', H p = none → Chg [] H H' → (yLst yInt).rep K H' [p] (.ref p) (Mi.sortI xs) → Q (.ref p) H') : rSortedI K [v] H Q := by
 obtain ⟨p, rfl, s⟩ := ints_sqF r
 refine ⟨p, xs, rfl, s, fun ns q pm so nq => ?_⟩
 rw [sorted_unique (pm.trans (sortI_perm xs).symm) so (sortI_sorted xs)]
 exact k q _ nq (Chg.lay nq trivial) ⟨q, _, rfl, rfl, upd_same, ints_mk _⟩
end
end G
namespace G
open PySem PySem.Spec PyProof.Rows
end G
namespace L2
open PySem PySem.Spec PyProof.Rows
end L2
namespace G
open PySem PySem.Spec PyProof.Rows L2
section
variable {X : Cx} {K : PySem.W.Frag} {σ σ' : L2.St} {H : Hp} {F F1 F2 Fu : List Addr} {ta tb te : TE} {v u x y : V} {i j : Int} {n : Nat} {α β : Type} {τ : Ty α} {υ : Ty β} {Q : VK} {D : Ends} {t1 t2 : TS} {g : TG} {ws : List Nat}
def dat_fl (d : Dat τ n) : Dat (yFl τ) (n + 1) where
 f := fun xs => .list (xs.map d.f)
 dec := @instDecidableEqList _ d.dec
 dp := fun h => by
   obtain ⟨a, vs, rfl, s, q⟩ := fl_sq h
   exact .lst s (dpAll (fun u x z => d.dp z) q)
 lay := fun xs => by simp only [PyData.canLay0]; exact layAll d.lay xs
 dpt := fun xs => by simp only [PyData.depth]; exact Nat.succ_le_succ (dptAll d.dpt xs)
 eqv := fun xs ys => by simp only [PyData.eqv]; exact @eqvAllL _ d.dec _ d.eqv xs ys
end
end G
namespace G
open PySem PySem.Spec PyProof.Rows L2
end G
namespace L2
open PySem PySem.Spec PyProof.Rows
end L2
namespace G
open PySem PySem.Spec PyProof.Rows L2
section
variable {K : PySem.W.Frag} {σ σ' : L2.St} {H : Hp} {F F1 F2 Fu : List Addr} {ta tb tc td te : TE} {v u x y : V} {i j k l : Int} {α β : Type} {τ : Ty α} {υ : Ty β} {Q : VK} {c : Bool}
end
end G
namespace G
open PySem PySem.Spec PyProof.Rows L2
section
variable {K : PySem.W.Frag} {σ σ' : L2.St} {H : Hp} {F F1 F2 Fu : List Addr} {ta tb te : TE} {v u x y : V} {i j : Int} {α β : Type} {τ : Ty α} {υ : Ty β} {Q : VK}
def Lst (H : Hp) (a : Addr) (xs : List V) : Prop := H a = some (.lst xs) ∨ ∃ o, H a = some (.frz o (.lst xs))
theorem lst_ok {X : Cx} {pins : List (Addr × Obj)} {σ : L2.St} {s : Shared} {H : Hp} {a : Addr} {xs : List V} (I : Inv X pins σ H s) (h : Lst H a xs) : ∃ (its : List Value) (n : Nat), Vals xs its ∧ xs.length = its.length ∧ s.heap.get? a = some { cls := .type "list", data := .seq its.toArray n } := by
 rcases h with h | ⟨o, h⟩
 · obtain ⟨z, its, n, r, e⟩ := (show ObjOk X.prog X.w H s.heap a (.lst xs) from I.hok a _ h)
   exact ⟨its, n, r, r.length, e⟩
 · obtain ⟨e0, z, its, n, r, e⟩ := (show s.heap.get? a = some o ∧ ObjOk X.prog X.w H s.heap a (.lst xs) from I.hok a _ h)
   exact ⟨its, n, r, r.length, e⟩
section
variable {n m : Nat} {x y : α} {w' : V}
theorem w_neD2 [z : DecidableEq α] {τ υ : Ty α} (d : Dat τ n) (d2 : Dat υ m) (e : ∀ x, d2.f x = d.f x) (r : τ.rep K H F1 v x) (q : υ.rep K H F2 w' y) (k : Q (.bl (!decide (x = y))) H) (hn : n ≤ 64 := by decide) : rNeD K v w' H Q :=
 ⟨_, _, d.dp r, e y ▸ d2.dp q, d.shaped hn x, d.shaped hn y, by
   have e : @decide (x = y) (d.dec x y) = @decide (x = y) (z x y) := by congr
   rw [d.eqv, e]; exact k⟩
end
end
end G
namespace G
open PySem PySem.Spec PyProof.Rows L2
section
variable {K : PySem.W.Frag} {σ σ' : L2.St} {H H' : Hp} {F F1 F2 Fu : List Addr} {ta tb te : TE} {v u x y : V} {i j : Int} {α β : Type} {τ : Ty α} {υ : Ty β} {Q : VK} {D : Ends}
end
end G
namespace G
open PySem PySem.Spec PyProof.Rows L2
section
variable {K : PySem.W.Frag} {σ σ' : L2.St} {H H' : Hp} {F F1 F2 Fu : List Addr} {ta tb te : TE} {v u x y : V} {i j : Int} {α β : Type} {τ : Ty α} {υ : Ty β} {Q : VK} {D : Ends}
theorem pi_or {X : Cx} {tg e : Expr} {w1 w2 : TI} (h1 : PI X tg e w1) (h2 : PI X tg e w2) : PI X tg e (fun σ H R => w1 σ H R ∨ w2 σ H R) :=
 ⟨fun pins s σ H R I h => h.elim (h1.run pins s σ H R I) (h2.run pins s σ H R I)⟩
theorem l_q {tl : TE} {g : TG} {tb : TS} {nx : L2.St → Hp → Prop} {d : List α ⊕ List α} (hv : Val tl σ H v) (r : (ySum (yLst τ) (yTupL τ)).rep K H F v d) (Pv : Nat → L2.St → Hp → Prop) (h0 : Pv 0 σ H) (hl : ∀ i σ' H', Pv i σ' H' → (ySum (yLst τ) (yTupL τ)).rep K H' F v d)
   (hs : ∀ (i : Nat) (x : α) (u : V) σ' H', (Mi.unq d)[i]? = some x → τ.rep K H' [] u x → Pv i σ' H' → g u σ' H' fun σ2 H2 => tb { D with nx := Pv (i + 1), ct := Pv (i + 1), bk := nx } σ2 H2) (hd : ∀ σ' H', Pv (Mi.unq d).length σ' H' → nx σ' H') :
   iList K tl σ H (fun J H1 => LoopG J g tb D nx σ H1) ∨ iTup K tl σ H (fun J H1 => LoopG J g tb D nx σ H1) := by
 cases d with
 | inl a => exact .inl (w_iList (hv _ (l_lst r Pv h0 hl hs hd)))
 | inr a => exact .inr (w_iTup (hv _ (l_tup r Pv h0 hl hs hd)))
end
end G
namespace G
open PySem PySem.Spec PyProof.Rows L2
section
variable {K : PySem.W.Frag} {σ σ' : L2.St} {H : Hp} {F F1 F2 Fu G : List Addr} {ta tb te : TE} {v u x y e : V} {i j : Int} {α β : Type} {τ : Ty α} {υ : Ty β} {Q : VK} {D : Ends} {nx : L2.St → Hp → Prop}
end
end G
namespace L2
open PySem PySem.Spec PyProof.Rows
end L2
namespace G
open PySem PySem.Spec PyProof.Rows L2
section
variable {X : Cx} {K : PySem.W.Frag} {σ σ' : L2.St} {H : Hp} {F F1 F2 Fu : List Addr} {ta tb te : TE} {v u x y : V} {i j : Int} {n : Nat} {α β : Type} {τ : Ty α} {υ : Ty β} {Q : VK} {D : Ends} {t1 t2 : TS} {g : TG} {ws : List Nat}
end
end G
namespace L2
open PySem PySem.Spec PyProof.Rows
end L2
namespace G
open PySem PySem.Spec PyProof.Rows L2
section
variable {K : PySem.W.Frag} {σ σ' : L2.St} {H : Hp} {F F1 F2 Fu : List Addr} {ta tb te : TE} {v u x y : V} {i j : Int} {α β : Type} {τ : Ty α} {υ : Ty β} {Q : VK} {D : Ends}
end
end G
namespace G
open PySem PySem.Spec PyProof.Rows L2
section
variable {K : PySem.W.Frag} {σ σ' : L2.St} {H : Hp} {F F1 F2 Fu G : List Addr} {ta tb te : TE} {v u x y e : V} {i j : Int} {α β : Type} {τ : Ty α} {υ : Ty β} {Q : VK} {D : Ends} {t1 t2 : TS}
def rIns : V → List V → Hp → VK → Prop := fun x vs H Q => ∃ (l : Addr) (xs : List V) (i : Int) (y : V), x = .ref l ∧ vs = [.int i, y] ∧ H l = some (.lst xs) ∧ xs.length < sizeLine ∧ 0 ≤ i ∧ i < 2 ^ 63 ∧
 Q .non (upd H l (.lst (xs.take i.toNat ++ [y] ++ xs.drop i.toNat)))
theorem mt_ins {X : Cx} : MtR X "list.insert" rIns := mt_insert
theorem m_ins {xs : List α} {d : α} {z : Unit} (r : (yLst τ).rep K H F v xs) (ru : τ.rep K H [] u d) (hz : Mi.guardO (decide (0 ≤ i ∧ i < 2 ^ 63) && decide (xs.length < Mi.big)) = some z)
   (k : ∀ H', Chg F H H' → (yLst τ).rep K H' F v (xs.take i.toNat ++ [d] ++ xs.drop i.toNat) → Q .non H') : rIns v [.int i, u] H Q := by
 obtain ⟨h1, h2⟩ := okB hz
 have h1 := of_decide_eq_true h1
 have h2 := of_decide_eq_true h2
 obtain ⟨p, vs, rfl, rfl, g, q⟩ := r
 have c : Chg [p] H (upd H p (.lst (vs.take i.toNat ++ [u] ++ vs.drop i.toNat))) := Chg.wr g (fun z => z)
 have q2 := Paired.mapP q fun _ _ z => Ty.fz z c
 exact ⟨p, vs, i, u, rfl, rfl, g, Nat.lt_of_lt_of_le (by rw [pr_len q]; exact h2) line_big, h1.1, h1.2, k _ c ⟨p, _, rfl, rfl, upd_same, pr_app (pr_app (pr_take _ q2) (.cons (Ty.fz ru c) .nil)) (pr_drop _ q2)⟩⟩
end
end G
namespace G
open PySem PySem.Spec PyProof.Rows L2
section
variable {K : PySem.W.Frag} {H : Hp} {F1 F2 : List Addr} {v w' : V} {Q : VK} {α : Type} {n m : Nat} {x y : α}
end
end G
namespace G
open PySem PySem.Spec PyProof.Rows L2
end G
namespace G
open PySem PySem.Spec PyProof.Rows L2
def deaf : GenState → GenState
 | .suspended _ l c p fs cl => .suspended (fun _ => .unsupported "") l c p fs cl
 | x => x
def slp : GenState → Bool
 | .suspended .. => true
 | _ => false
def plainG : GenState → Prop
 | .suspended _ _ _ _ fs _ => splitAtGen fs = none
 | _ => True
structure Sim (D : Nat → Option GenState) (G G0 : Array GenState) : Prop where
 sz : G0.size = G.size
 old : ∀ (g : Nat) x, D g = some x → G[g]? = some x ∧ G0[g]? = some (deaf x) ∧ slp x = true
 new : ∀ (g : Nat) x, D g = none → G[g]? = some x → G0[g]? = some x ∧ plainG x
section
variable {D : Nat → Option GenState} {G G0 : Array GenState} {g : Nat} {x : GenState}
theorem Sim.set (h : Sim D G G0) (d : D g = none) (px : plainG x) : Sim D (G.setIfInBounds g x) (G0.setIfInBounds g x) := by
 refine ⟨by rw [Array.size_setIfInBounds, Array.size_setIfInBounds]; exact h.sz, fun j y q => ?_, fun j y q r => ?_⟩
 · have ne : g ≠ j := fun z => by subst z; rw [d] at q; cases q
   rw [Array.getElem?_setIfInBounds_ne ne, Array.getElem?_setIfInBounds_ne ne]
   exact h.old j y q
 · by_cases ne : g = j
   · subst ne
     rw [Array.getElem?_setIfInBounds_self] at r ⊢
     split at r
     · cases r
       rename_i l
       rw [if_pos (by rw [h.sz]; exact l)]
       exact ⟨rfl, px⟩
     · cases r
   · rw [Array.getElem?_setIfInBounds_ne ne] at r ⊢
     exact h.new j y q r
theorem Sim.push (h : Sim D G G0) (px : plainG x) : Sim D (G.push x) (G0.push x) := by
 refine ⟨by rw [Array.size_push, Array.size_push, h.sz], fun j y q => ?_, fun j y q r => ?_⟩
 · obtain ⟨a, b, c⟩ := h.old j y q
   have l := (Array.getElem?_eq_some_iff.mp a).1
   refine ⟨?_, ?_, c⟩
   · rw [Array.getElem?_push, if_neg (by omega)]; exact a
   · rw [Array.getElem?_push, if_neg (by rw [h.sz]; omega)]; exact b
 · rw [Array.getElem?_push] at r ⊢
   by_cases l : j = G.size
   · rw [if_pos l] at r
     rw [if_pos (by rw [h.sz]; exact l)]
     cases r
     exact ⟨rfl, px⟩
   · rw [if_neg l] at r
     rw [if_neg (by rw [h.sz]; exact l)]
     exact h.new j y q r
end
end G
namespace G
open PySem PySem.Spec PyProof.Rows L2 GenW
abbrev Zk := Hp × List (Addr × Obj)
structure GP where
 M : Model
 A : Around
 En : Nat → Zk → Shared → Result → Shared → Prop
 Yd : Nat → Zk → Shared → Value → Shared → (Zk → Shared → Prop) → Prop
section
variable {G : GP} {n : Nat} {Z : Zk} {so s : Shared} {c : Code} {fs : List Frame}
end
structure GF where
 X0 : Cx
 q : Nat
 n : Nat
 it : Nat → V → Hp → Prop
 Hs : Hp
 g0 : Addr × Obj
def cutH (h : Heap) (L : Addr) : Heap := { h with objs := h.objs.extract 0 L }
def GF.at (F : GF) (s : Shared) (Z : Zk) : Cx := { F.X0 with s_0 := { s with heap := cutH s.heap F.X0.env.locals }, H_0 := Z.1, pn := Z.2 }
def IpOk (F : GF) (Z : Zk) (so : Shared) (ip : List (Addr × Obj)) : Prop := (F.X0.env.locals ≤ so.heap.objs.size ∧ F.g0 ∈ ip) ∧ ∀ p ∈ ip, F.X0.env.locals ≤ p.1 ∧ ∀ p' ∈ Z.2, p'.1 ≠ p.1
def GF.yd (F : GF) : Nat → Zk → Shared → Value → Shared → (Zk → Shared → Prop) → Prop := fun m Z so v s' kap =>
 ∃ x σ Hy ip, 0 < m ∧ m ≤ F.n ∧ RelV x v ∧ F.it (F.n - m) x Hy ∧ Chg [] F.Hs Hy ∧ Inv (F.at so Z) ip σ Hy s' ∧ IpOk F Z so ip ∧ ∀ s2 P2 H2, Chg [] Hy H2 → Inv (F.at s2 (H2, P2)) ip σ H2 s2 → IpOk F (H2, P2) s2 ip → kap (H2, P2) s2
def GF.en (F : GF) (gp : Addr × Obj) : Nat → Zk → Shared → Result → Shared → Prop := fun m Z so r s' =>
 (r = .ok (.ret .none) ∨ r = .ok .next) ∧ m = 0 ∧ ∃ σ He ip, Chg [] F.Hs He ∧ gp ∈ ip ∧ Inv (F.at so Z) ip σ He s' ∧ IpOk F Z so ip
def GF.gp (F : GF) (A : Around) (gp : Addr × Obj) : GP := ⟨model F.X0.prog F.X0.w, A, F.en gp, F.yd⟩
section
variable {F : GF} {st : Stmt} {rest : List Stmt} {t u : TS}
end
end G
namespace G
open PySem PySem.Spec PyProof.Rows L2 GenW
section
variable {F : GF} {st : Stmt} {rest : List Stmt} {t u : TS}
end
end G
namespace G
open PySem PySem.Spec PyProof.Rows L2 GenW
def Exp : HO → Prop
 | .tup _ => True
 | .frz _ (.tup _) => True
 | .frz _ (.lst _) => True
 | _ => False
def Flt : HO → Prop
 | .lst _ => True
 | .dK _ => True
 | .dT _ => True
 | .set _ _ => True
 | .ext _ => True
 | _ => False
section
variable {P : Program} {w : World} {H H' : Hp} {h h' : Heap} {a : Addr} {o : HO}
end
section
variable {X : Cx} {pins : List (Addr × Obj)} {σ : L2.St} {H : Hp} {s : Shared}
end
end G
namespace G
open PySem PySem.Spec PyProof.Rows L2 GenW
structure Dd (h h' : Heap) : Prop where
 sz : h.objs.size ≤ h'.objs.size
 dead : ∀ b, b < h.objs.size → h.get? b = none → h'.get? b = none
theorem Dd.refl (h : Heap) : Dd h h := ⟨Nat.le_refl _, fun _ _ e => e⟩
theorem Dd.trans {a b c : Heap} (x : Dd a b) (y : Dd b c) : Dd a c := ⟨Nat.le_trans x.sz y.sz, fun d l e => y.dead d (Nat.lt_of_lt_of_le l x.sz) (x.dead d l e)⟩
open Classical in
noncomputable def hideM (H : Hp) (M : List Addr) : Hp := fun b => if b ∈ M then none else H b
theorem hide_out {H : Hp} {M : List Addr} {b : Addr} (h : b ∉ M) : hideM H M b = H b := if_neg h
section
variable {A B : Hp} {b : Addr} {o : HO}
end
structure Rel (env : Env) (H1 : Hp) (M : List Addr) (Hg Hc : Hp) : Prop where
 mm : ∀ b ∈ M, Hg b = none
 gg : Chg [] (hideM H1 M) Hg
 cc : Chg M H1 Hc
 ol : ∀ b, b < env.locals → Hc b = none → Hg b = none
 sh : ∀ b o, H1 b = none → Hg b = some o → Hc b = none ∨ (Hc b = some o ∧ Exp o)
 fm : ∀ b ∈ M, ∃ o, Hc b = some o ∧ Flt o
 dm : ∀ b ∈ M, ∃ o, H1 b = some o
theorem Rel.old {env : Env} {H1 : Hp} {M : List Addr} {Hg Hc : Hp} (R : Rel env H1 M Hg Hc) {b : Addr} {o : HO} (h : H1 b = some o) (m : b ∉ M) : Hg b = some o ∧ Hc b = some o :=
 ⟨R.gg.keep b o (by rw [hide_out m]; exact h) (.inl List.not_mem_nil), R.cc.keep b o h (.inl m)⟩
end G
namespace G
open PySem PySem.Spec PyProof.Rows L2 GenW
section
variable {X : Cx} {N : List Str} {env : Env} {Aw : Around} {q n : Nat} {it : Nat → V → Hp → Prop} {H1 Hg Hc Hy Hs : Hp} {M : List Addr} {pins ip ip' : List (Addr × Obj)} {σ σg σ' : L2.St} {s so sy : Shared} {g0 : Addr × Obj}
end
end G
namespace G
open PySem PySem.Spec PyProof.Rows L2 GenW
end G
namespace G
open PySem PySem.Spec PyProof.Rows L2 GenW
abbrev SpY := List V → Hp → Nat → (Nat → V → Hp → Prop) → Prop
end G
namespace G
open PySem PySem.Spec PyProof.Rows L2 GenW
section
variable {X : Cx} {N : List Str} {env : Env} {Aw : Around} {q n : Nat} {it : Nat → V → Hp → Prop} {H1 : Hp} {M : List Addr} {pins : List (Addr × Obj)} {σ : L2.St} {s s' : Shared} {vs : List V}
end
end G
namespace G
open PySem PySem.Spec PyProof.Rows L2 GenW
end G
namespace Mi
end Mi
namespace G
open PySem PySem.Spec PyProof.Rows L2 GenW
section
variable {K : PySem.W.Frag} {σ σ' : L2.St} {H H1 : Hp} {F : GF} {F1 F2 M : List Addr} {v u x : V} {α β : Type} {τ : Ty β} {te : TE} {ta : TA} {D : Ends} {t1 t2 tb : TS} {gt : TG} {sp : SpY} {vs : List V} {tot : List β}
end
end G
namespace PySem
namespace ErrI_leg
open PySem.W PySem.Calls PyProof.Rows PySem.HandSPX
open PySem.ErrX (ldX one_size)
def eA (p1 p2 : Pos) : Arguments := { posonlyargs := [], args := [{ arg := "self", annotation := none, pos := p1 }, { arg := "leg", annotation := none, pos := p2 }], vararg := none, kwonlyargs := [], kw_defaults := [], kwarg := none, defaults := [] }
def eB (m : Str) (p0 p1 p2 p3 p4 p5 p6 p7 q1 q2 q3 q4 r5 r6 : Pos) : List Stmt :=
 [.Expr (.Call (.Attribute (.Call (.Name "super" p0) [] [] p1) "__init__" p2) [.BinOp (.Constant (.str m) 0 p3) .Add (.Call (.Name "str" r5) [.Name "leg" p4] [] r6) p5] [] p6) p7, .Assign [.Attribute (.Name "self" q1) "leg" q2] (.Name "leg" q3) q4]
def eS : Scope := { kind := .function, names := [(PySem.Str.ofString "self", .local), (PySem.Str.ofString "leg", .local), (PySem.Str.ofString "__class__", .free), (PySem.Str.ofString "super", .globalImplicit), (PySem.Str.ofString "str", .globalImplicit)], isGenerator := false, isCoroutine := false, more := [] }
structure ErrTxt (P : Program) (K : Frag) (mg : Str → Option Value) (x qual : Str) (st : Stmt) (C fI : Addr) : Prop where
 gC : mg x = some (.ref C)
 cls : ∃ nm q N bs bm sn sub ab col dd k0 k1 k2 k3 k5, K.lookup C = some (excClassObj nm q C N bs bm true sn sub ab col dd k0 k1 k2 k3 k5 "ValueError.__new__") ∧ refsVE bm = true
 sa : findIn K (.ref C) "__setattr__" = some (some (.builtin "object.__setattr__"))
 ga : findIn K (.ref C) "__getattribute__" = some (some (.builtin "BaseException.__getattribute__"))
 gg : findIn K (.ref C) "__getattr__" = some none
 noN : findIn K (.ref C) "leg" = some none
 iC : findIn K (.ref C) "__init__" = some (some (.ref fI))
 tC : typeIn K (.ref fI) = some (.type "function")
 kC : keepIn K (.ref C) = true
 exC : subIn K (.ref C) (.type "BaseException") = some true
 veC : subIn K (.ref C) (.type "ValueError") = some true
 tyC : typeIn K (.ref C) = some (.type "type")
 hdC : hasDictIn K C = true
 mroC : mroIn K C (.ref C) = some true
 sup : ks_superIn K C C "__init__" = some (some (.builtin "ValueError.__init__"))
 opq : nsIn K cStatics "thirdparty.any" = some none
 nsu : mg "super" = none
 nst : mg "str" = none
 top : (P.main.scope.names.lookup ("super" : Str)).isSome = false
 fn : ∃ (oc : Value) (od : Option Addr) (doc pm : Value) (an : Option Addr) (cda : Addr) (ct : Value) (cc : Addr) (osl : Array (Option Value)),
   K.lookup fI = some ⟨oc, od, .func (ksFn "__init__" qual (L2.defArgs st) (L2.defBody st) (L2.defScope st) .none .none doc pm an (.ref cda) ct cc), osl⟩ ∧ codeIn K (.ref cda) qual = true ∧
   (∃ (ccl : Value) (cdd : Option Addr) (vs : Array Value) (ccs : Array (Option Value)) (file : Str) (tf : Tok), K.lookup cda = some ⟨ccl, cdd, .fields vs, ccs⟩ ∧ vs[2]? = some (.str file tf) ∧ ((P.main.file : Str) == file) = true) ∧
   ∃ (cl : Value) (cld : Option Addr) (csl : Array (Option Value)), K.lookup cc = some ⟨cl, cld, .cell (some (.ref C)), csl⟩
 shape : ∃ (msg : Str) (r1 r2 p0 p1 p2 p3 p4 p5 p6 p7 q1 q2 q3 q4 r5 r6 : Pos), L2.defArgs st = eA r1 r2 ∧ L2.defBody st = eB msg p0 p1 p2 p3 p4 p5 p6 p7 q1 q2 q3 q4 r5 r6 ∧ L2.defScope st = eS ∧ msg.length ≤ 100 ∧
   ∀ L f cda cc : Addr, ∃ pl : Sem Bool, eval (.Call (.Attribute (.Call (.Name "super" p0) [] [] p1) "__init__" p2) [.BinOp (.Constant (.str msg) 0 p3) .Add (.Call (.Name "str" r5) [.Name "leg" p4] [] r6) p5] [] p6) (ksEnv qual eS L f (.ref cda) cc) = (do
     let ov ← attributeBase (.Call (.Name "super" p0) [] [] p1) "__init__" (ksEnv qual eS L f (.ref cda) cc) (eval (.Call (.Name "super" p0) [] [] p1) (ksEnv qual eS L f (.ref cda) cc))
     standAt p2.atName
     let (f', first) ← holding [ov] (getMethod ov "__init__" pl)
     callWith p6 f' first (backTo p6 (starEach [.BinOp (.Constant (.str msg) 0 p3) .Add (.Call (.Name "str" r5) [.Name "leg" p4] [] r6) p5] (ksEnv qual eS L f (.ref cda) cc))) [])
structure InitEnd (h h' : Heap) (x C dx : Addr) (v : Value) : Prop where
 keep : ∀ b o, b ≠ x → h.get? b = some o → h'.get? b = some o
 obj : ∃ t1 : Addr, h'.get? x = some { cls := .ref C, dict := some dx, data := .fields #[.ref t1, .none, .none, .none, .bool false, .none] }
 dbig : h.objs.size ≤ dx
 dne : dx ≠ x
 ns : h'.Ns1 dx (fun y => if y = "leg" then some v else none)
section
variable {prog : Program} {w : World} {A : Around} {E : Value → Shared → Prop} {R : Result → Shared → Prop} {s : Shared} {K : Frag} {mg mb : Str → Option Value} {C fI : Addr} {cn qual : Str} {st : Stmt}
theorem err_init (T : ErrTxt prog K mg cn qual st C fI) {x t0 : Addr} {y : Int} {ty : Tok} (X : K.In s.heap) (hg : s.heap.Ns mainGlobals mg) (hb : s.heap.Ns builtinsNs mb) (hbs : mb "super" = bootBuiltins "super") (hbt : mb "str" = bootBuiltins "str") (hlim : s.heap.NoLimit) (hx : s.heap.get? x = some (excO C t0)) (hnx : K.lookup x = none) (hy : y.natAbs.log2 < 1920) (hroom : A.depth < recursionLimit)
   (hq : ∀ h' tk dx, InitEnd s.heap h' x C dx (.int y ty) → R (.ok (.ret .none)) { s with heap := h', toks := tk }) :
   codeAny (model prog w) A (.call (.ref fI) ⟨[.ref x, .int y ty], []⟩) R s := by
 obtain ⟨oc, od, doc, pm, an, cda, ct, cc, osl, ho, hcd, ⟨ccl, cdd, vs, ccs, file, tf, hcode, hvs, hfile⟩, cl, cld, csl, hcell⟩ := T.fn
 obtain ⟨msg, r1, r2, p0, p1, p2, p3, p4, p5, p6, p7, q1, q2, q3, q4, r5, r6, eA', eB', eS', hml, hev⟩ := T.shape
 rw [eA', eB', eS'] at ho
 obtain ⟨nm, q, N, bs, bm, sn, sub, ab, col, dd, k0, k1, k2, k3, k5, hC, hbm⟩ := T.cls
 have hcl : clsIn K C = some { name := nm, bases := bs, mro := .ref C :: bm, ns := N, qualname := q, hasDict := true, slotNames := sn, subclasses := sub, abstract := ab, collection := col, hasDel := false } := by unfold clsIn; rw [hC] <;> rfl
 refine ks_codeAny_call_defAt (fd := ksFn "__init__" qual (eA r1 r2) (eB msg p0 p1 p2 p3 p4 p5 p6 p7 q1 q2 q3 q4 r5 r6) eS .none .none doc pm an (.ref cda) ct cc) (body := eB msg p0 p1 p2 p3 p4 p5 p6 p7 q1 q2 q3 q4 r5 r6) (binds := [("self", .ref x), ("leg", .int y ty)]) hroom (X _ _ ho) rfl hlim (codeRec_of X hcd) rfl (BindsTo.of_eq (by first | rfl | with_unfolding_all rfl)) (fun z hz => by revert z; show ∀ z ∈ eS.names, z.2 ≠ NameKind.cell; decide) (by first | decide | (intro z hz; simp at hz; rcases hz with rfl | rfl <;> rfl)) (fun h₁ hns k => ?_) rfl rfl rfl
 have X₁ : K.In h₁ := X.keeps k
 have hx₁ := k _ _ hx
 show wpAt (model prog w) _ _ (execs (_ :: _) (ksEnv qual eS s.heap.objs.size fI (.ref cda) cc)) _ _ _
 obtain ⟨pl, he⟩ := hev s.heap.objs.size fI cda cc
 refine ks_wpAt_execs_cons (ks_wpAt_Expr_any (ks_wpAt_MethodCall (pl := pl) (he := he) ?_))
 obtain ⟨oD, hD1, hD2⟩ : ∃ oD, h₁.get? C = some oD ∧ oD.data = .cls { name := nm, bases := bs, mro := .ref C :: bm, ns := N, qualname := q, hasDict := true, slotNames := sn, subclasses := sub, abstract := ab, collection := col, hasDel := false } := ⟨_, X₁ _ _ hC, rfl⟩
 refine ks_wpAt_super_base (env := ksEnv qual eS s.heap.objs.size fI (.ref cda) cc) rfl rfl rfl rfl (X₁ _ _ ho) rfl rfl rfl (X₁ _ _ hcode) rfl hvs hfile T.top ?_
 refine ks_loadName_global rfl rfl (loadGlobal_builtin (env := ksEnv qual eS s.heap.objs.size fI (.ref cda) cc) (hg.keeps k) T.nsu (hb.keeps k) (hbs.trans (by decide +kernel)) ⟨rfl, ?_⟩)
 refine wpAny_loadName_free rfl rfl rfl ⟨_, X₁ _ _ hcell, rfl⟩ ?_
 refine wpAny_loadName_local rfl rfl hns (v := .ref x) rfl ?_
 refine ks_wpAny_isType_cls hD1 hD2 ⟨rfl, ?_⟩
 refine ks_wpAny_call_super hD1 hD2 hx₁ rfl (fun c e => by cases e) (looks_mroIn X₁ T.mroC) (fun h₂ hso k₂ => ?_)
 have X₂ : K.In h₂ := X₁.keeps k₂
 have hx₂ := k₂ _ _ hx₁
 have I₂ : InstAt h₂ x (excO C t0) C none := ⟨hx₂, rfl, rfl, trivial⟩
 have hI : Looks (model prog w) h₂ (isInstance (.ref x) (.type "ValueError")) true := I₂.type.andThen (looks_subIn X₂ T.veC)
 have hsup := T.sup
 unfold ks_superIn at hsup
 rw [hcl] at hsup
 refine kxs_getMethod kxs_ValueError hso (looks_opaque X₂ T.opq) (l₀ := .ref C :: bm) (fun A Q E s k q => wpAny_bind ((looks_clsIn X₂ hcl) A _ E s k (wpAny_pure q))) rfl X₂ hsup hI (ks_ne X₂ I₂ hcl) rfl ?_
 have k₃ : ∀ b o, h₂.get? b = some o → (h₂.push (kxs_mw "ValueError.__init__" x)).get? b = some o := fun b o e => Heap.get?_push_of_some _ e
 have hu : (h₂.push (kxs_mw "ValueError.__init__" x)).get? h₂.objs.size = some (kxs_mw "ValueError.__init__" x) := Heap.get?_push_at rfl rfl
 have hns₃ : (h₂.push (kxs_mw "ValueError.__init__" x)).Ns s.heap.objs.size (fun y' => ([("self", .ref x), ("leg", Value.int y ty)] : List (Str × Value)).reverse.lookup y') := (hns.keeps k₂).keeps k₃
 refine kxs_callWith (i := "ValueError.__init__") (x := x) rfl (evalArgs_plain (args_cons (wpAny_BinOp (wpAny_Constant_str ?_)) rfl))
 refine wpAny_Call_Name_kw (wpAny_Name (ks_loadName_global (env := ksEnv qual eS s.heap.objs.size fI (.ref cda) cc) rfl rfl (loadGlobal_builtin (env := ksEnv qual eS s.heap.objs.size fI (.ref cda) cc) (((hg.keeps k).keeps k₂).keeps k₃) T.nst (((hb.keeps k).keeps k₂).keeps k₃) (v := .type "str") (hbt.trans (by decide +kernel)) ?_)) (by decide))
 refine PyProof.Rows.callWith_type1 (args_cons (ldX hns₃ (v := .int y ty) rfl ?_) rfl)
 refine args_nil (P.str_of_int hy ?_)
 refine add_str (fun t' tk => args_nil ⟨hu, ?_⟩) (by
   rw [ofString_length, sizeLine_eq]
   have := int_text_length_le (k := 1920) (by decide) hy
   omega)
 refine wpAny_call (codeAny_of_tree ?_)
 show wpAny _ _ (callAny (.ref h₂.objs.size) ⟨_, []⟩) _ _ _
 simp only [callAny]
 refine wpAny_bind (wpAny_load hu ?_)
 simp only [kxs_mw, show (Value.type "method-wrapper" == Value.type "method" || Value.type "method-wrapper" == Value.type "builtin_function_or_method" || Value.type "method-wrapper" == Value.type "method-wrapper") = true by decide, if_true]
 refine KFB.if_so (by decide) ?_
 refine wpAny_bind (check_bound_init F.excBase_ValueError.toExcCallFacts (k₃ _ _ (X₂ _ _ hC)) (k₃ _ _ hx₂) rfl ?_)
 refine wpAny_bind (wpAny_pure (wpAny_pure ?_))
 refine ⟨plainId_quiet F.excBase_ValueError.init.plain _, codeAny_builtin F.excBase_ValueError.initEntry ?_⟩
 refine exc_init_tree (cls := .ref C) (t0 := t0) (dv := none) (c2 := .none) (c3 := .none) (b4 := .bool false) (k₃ _ _ hx₂) (by rw [sizeLine_eq]; exact (by decide : 1 ≤ 16777216)) fun h₄ k₄ hx₄ _ => ?_
 show wpAt (model prog w) _ _ (execs (_ :: _) (ksEnv qual eS s.heap.objs.size fI (.ref cda) cc)) _ _ _
 have kk : ∀ b o, b ≠ x → s.heap.get? b = some o → h₄.get? b = some o := fun b o hb e => k₄ b o hb (k₃ b o (k₂ b o (k b o e)))
 have hLx : s.heap.objs.size ≠ x := Nat.ne_of_gt (Heap.lt_size hx)
 have hns₄ : h₄.Ns s.heap.objs.size (fun y' => ([("self", .ref x), ("leg", Value.int y ty)] : List (Str × Value)).reverse.lookup y') := by
   obtain ⟨oL, es, ep, hL, r⟩ := hns₃
   exact ⟨oL, es, ep, k₄ _ _ hLx hL, r⟩
 have X₄ : K.In h₄ := fun b o e => k₄ b o (fun z => by
   rw [z, hnx] at e; cases e) (k₃ b o (X₂ _ _ e))
 refine wpAt_of_wpAny (wpAny_execs_cons (plainObj_wpAny_Assign_Attribute ?_))
 refine ldX (v := .int y ty) hns₄ rfl (ldX (v := .ref x) hns₄ rfl ?_)
 refine set_plain X₄ (ox := excO C (h₂.push (kxs_mw "ValueError.__init__" x)).objs.size) (od := none) ⟨hx₄, rfl, rfl, trivial⟩ T.sa ?_
 refine exc_osa X₄ hx₄ hcl (show refsVE (.ref C :: bm) = true from hbm) rfl T.noN (fun h₅ tk₅ dx k₅ dn dne hx₅ hn₅ => ?_)
 show wpAny _ _ (execs _ _) _ _ _
 have z : s.heap.objs.size < h₄.objs.size := hns₄.lt
 exact wpAny_execs_nil (hq h₅ tk₅ dx ⟨fun b o hb e => k₅ b o hb (kk b o hb e), ⟨_, hx₅⟩, Nat.le_of_lt (Nat.lt_of_lt_of_le z dn), dne, hn₅⟩)
structure OwnMade (h h' : Heap) (e C d : Addr) (v : Value) : Prop where
 keep : ∀ b o, h.get? b = some o → h'.get? b = some o
 new : h.objs.size ≤ e
 obj : ∃ oe vs, h'.get? e = some oe ∧ oe.cls = .ref C ∧ oe.dict = some d ∧ oe.data = .fields vs ∧ vs[1]? = some .none ∧ vs[2]? = some .none
 dbig : h.objs.size ≤ d
 dne : d ≠ e
 ns : h'.Ns1 d (fun y => if y = "leg" then some v else none)
theorem err_made (T : ErrTxt prog K mg cn qual st C fI) {y : Int} {ty : Tok} (X : K.In s.heap) (hg : s.heap.Ns mainGlobals mg) (hb : s.heap.Ns builtinsNs mb) (hbs : mb "super" = bootBuiltins "super") (hbt : mb "str" = bootBuiltins "str") (hlim : s.heap.NoLimit) (hy : y.natAbs.log2 < 1920) (hroom : A.depth + 1 < recursionLimit)
   (hq : ∀ h' tk e d, OwnMade s.heap h' e C d (.int y ty) → R (.ok (.ret (.ref e))) { s with heap := h', toks := tk }) :
   codeAny (model prog w) A (.call (.ref C) ⟨[.int y ty], []⟩) R s := by
 obtain ⟨nm, q, N, bs, bm, sn, sub, ab, col, dd, k0, k1, k2, k3, k5, hC, hbm⟩ := T.cls
 obtain ⟨hp, g, dr, tk, os⟩ := s
 have k : ∀ b o, hp.get? b = some o → ((hp.push (kdv_tup [.int y ty])).push (excO C hp.objs.size)).get? b = some o := fun b o e => Heap.get?_push_of_some _ (Heap.get?_push_of_some _ e)
 have hget : ((hp.push (kdv_tup [.int y ty])).push (excO C hp.objs.size)).get? (hp.objs.size + 1) = some (excO C hp.objs.size) := by heap_get
 have hnx : K.lookup (hp.objs.size + 1) = none := by
   cases e : K.lookup (hp.objs.size + 1) with
   | none => rfl
   | some o =>
     have z : hp.get? (hp.objs.size + 1) = some o := X _ _ e
     exact absurd (Nat.lt_of_succ_lt (Heap.lt_size z)) (Nat.lt_irrefl _)
 refine call_own F.excBase_ValueError (fun X => refsVE_contains X bm hbm) (X _ _ hC) (looks_findIn X T.iC) (fun self => bind_fn X self T.tC) (one_size _) ?_
 refine err_init (s := ⟨(hp.push (kdv_tup [.int y ty])).push (excO C hp.objs.size), g, dr, tk, os⟩) T (X.keeps k) (hg.keeps k) (hb.keeps k) hbs hbt (hlim.keeps k) hget hnx hy ?_ fun h' tk' dx ⟨k', ⟨t1, hx⟩, dn, dne, hns⟩ => ?_
 · show A.depth + 1 < recursionLimit
   exact hroom
 · have old : ∀ b o, hp.get? b = some o → h'.get? b = some o := fun b o e => k' b o (Nat.ne_of_lt (Nat.lt_succ_of_lt (Heap.lt_size e))) (k b o e)
   have z : hp.objs.size + 1 + 1 ≤ dx := by
     first
       | (simpa only [Heap.size_push] using dn)
       | exact dn
       | (have q := dn; rw [Heap.size_push, Heap.size_push] at q; exact q)
   exact ⟨rfl, hq h' tk' (hp.objs.size + 1) dx ⟨old, Nat.le_succ _, ⟨_, _, hx, rfl, rfl, rfl, rfl, rfl⟩, Nat.le_trans (Nat.le_trans (Nat.le_succ _) (Nat.le_succ _)) z, dne, hns⟩⟩
end
end ErrI_leg
end PySem
namespace L2
open PySem PySem.Spec PyProof.Rows
section
variable {X : Cx} {C fI : Addr} {cn qual : Str} {st : Stmt}
end
end L2
namespace G
open PySem PySem.Spec PyProof.Rows L2
section
variable {K : PySem.W.Frag} {σ : L2.St} {H : Hp} {Q : VK} {C : Addr} {D : Ends} {t2 : TS} {te : TE} {a dd : Addr} {fs : List (Str × V)}
end
end G
namespace G
open PySem PySem.Spec PyProof.Rows L2
section
variable {K : PySem.W.Frag} {H : Hp} {Q : VK} {F : List Addr} {v : V} {α : Type} {τ : Ty α}
end
end G
namespace G
open PySem PySem.Spec PyProof.Rows L2
section
variable {K : PySem.W.Frag} {σ : L2.St} {H : Hp} {Q : VK} {C : Addr} {te : TE} {a dd : Addr} {fs : List (Str × V)}
end
end G
namespace G
open PySem PySem.Spec PyProof.Rows L2
end G
namespace G
open PySem PySem.Spec PyProof.Rows L2
end G
namespace G
open PySem PySem.Spec PyProof.Rows L2
def frL (L : List Addr) (g : Addr → Option Obj) : PySem.W.Frag := He.frG g (L ++ [cStatics])
def obsXGL (L : List Addr) (fa : List He.Fa) (fn : List He.DefD) (ex : PySem.W.Frag → Bool) (file : Str) (er : List ErrD) (g : Addr → Option Obj) : AlX := (He.obsD fa fn (frL L g), ex (frL L g) && er.all (fun d => d.ok (frL L g) file), er.map fun d => fnN (frL L g) (d.x, some "__init__"))
def hookXL (L : List Addr) (fa : List He.Fa) (fn : List He.DefD) (ex : PySem.W.Frag → Bool) (file : Str) (er : List ErrD) : PySem.W.Hook where
 α := AlX
 obs := fun s => obsXGL L fa fn ex file er s.heap.get?
 val := fun _ => (He.valD fn, true, er.map ErrD.val)
 says := fun _ h => ∃ K : PySem.W.Frag, K.In h ∧ SaysX fa fn ex file er K
 of := fun _ _ e => ⟨_, He.frG_in, congrArg Prod.fst e, (He.ba (congrArg (fun z : AlX => z.2.1) e)).1, (He.ba (congrArg (fun z : AlX => z.2.1) e)).2, congrArg (fun z : AlX => z.2.2) e⟩
 keeps := fun _ _ _ ⟨K, hK, c⟩ k => ⟨K, PySem.W.Frag.In.keeps hK k, c⟩
theorem obsXGL_eq {L : List Addr} {fa : List He.Fa} {fn : List He.DefD} {ex : PySem.W.Frag → Bool} {file : Str} {er : List ErrD} {g : Addr → Option Obj} {s : Shared} (h : ∀ a, g a = s.heap.get? a) : obsXGL L fa fn ex file er g = (hookXL L fa fn ex file er).obs s := by
 have e : g = s.heap.get? := funext h
 rw [e] <;> rfl
end G
namespace G
open PySem PySem.Spec PyProof.Rows L2
end G
namespace G
open PySem PySem.Spec PyProof.Rows L2
section
variable {K : PySem.W.Frag} {σ : L2.St} {H : Hp} {Q : VK} {v w : V} {α β γ : Type} {τ : Ty α} {υ : Ty β} {ω : Ty γ} {g : TG} {tt : TT} {te : TE} {ws : List Nat}
end
end G
namespace Mi
end Mi
namespace L2
open G (Lst lst_ok)
open PySem PySem.Spec PyProof.Rows
end L2
namespace G
open PySem PySem.Spec PyProof.Rows L2
section
variable {K : PySem.W.Frag} {H : Hp} {Q : VK} {v u : V}
end
end G
namespace G
open PySem PySem.Spec PyProof.Rows L2
section
variable {X : Cx} {e b : Expr} {te tb : TE} {i : Nat} {x : Str} {p q rest : List Stmt} {t u tr : TS} {p1 p2 p3 p4 : Pos}
end
section
variable {K : PySem.W.Frag} {H : Hp} {Q : VK} {v : V}
end
end G
namespace G
open PySem PySem.Spec PyProof.Rows L2
section
variable {K : PySem.W.Frag} {σ : L2.St} {H : Hp} {Q : VK} {v u : V} {F : List Addr} {α β : Type} {τ : Ty α}
end
end G
namespace G
open PySem PySem.Spec PyProof.Rows L2
section
variable {K : PySem.W.Frag} {σ : L2.St} {H : Hp} {Q : VK} {v u : V} {F F2 : List Addr} {α : Type} {τ : Ty α} {n : Nat} {i : Int}
end
end G
namespace L2
open PySem PySem.Spec PyProof.Rows
def DictB (P : Program) (w : World) (h : Heap) (a : Addr) (xs : List (List Key × Addr × Value)) : Prop := xs.length ≤ sizeLine ∧ (a == sysModules) = false ∧
 ∃ (o : Obj) (es : Array DictEntry) (ep : Nat), h.get? a = some o ∧ o.ExactDict ∧ o.data = .dict es ep ∧ es.toList = xs.map (entryOfKey (tupleKind (mixKind P w))) ∧ (xs.map (·.1)).Nodup
def DictBO (P : Program) (w : World) (a : Addr) (xs : List (List Key × Addr × Value)) : HO := .ext fun h => DictB P w h a xs
section
variable {X : Cx} {pins : List (Addr × Obj)} {σ : St} {H : Hp} {s : Shared} {a b : Addr} {xs : List (List Key × Addr × Value)} {k : List Key}
end
section
variable {X : Cx}
end
section
variable {X : Cx}
end
section
variable {prog : Program} {w : World} {A : Around} {R : Result → Shared → Prop} {s : Shared} {elt t0 i0 t1 i1 : Expr} {ifs0 ifs1 : List Expr} {scope : Scope} {pos : Pos} {it acc : Value} {env : Env}
end
section
variable {X : Cx}
end
end L2
namespace L2
open PySem PySem.Spec PyProof.Rows
section
variable {X : Cx} {pins : List (Addr × Obj)} {σ : St} {H : Hp} {s : Shared} {d : Addr} {o : Obj} {xs : List (List Key × Addr × Value)}
end
section
variable {P : Program} {w : World} {K : PySem.W.Frag} {tg : Expr} {d : Addr} {o : Obj} {es : Array DictEntry} {ep : Nat} {xs : List (List Key × Addr × Value)} {vs : List V}
end
section
variable {X : Cx} {P : Program} {w : World} {K : PySem.W.Frag} {tg e : Expr} {td : TE} {apos cpos : Pos}
end
section
variable {X : Cx} {P : Program} {w : World} {K : PySem.W.Frag} {td : TE} {pos : Pos}
end
end L2
namespace G
open PySem PySem.Spec PyProof.Rows L2
abbrev Ent := List L2.Key × Addr × Value
def kk (x : Int × Int) : List L2.Key := [.inl x.1, .inl x.2]
section
variable {K : PySem.W.Frag} {H H' : Hp} {β γ : Type} {υ : Ty β} {q : Ent} {x : (Int × Int) × β}
def EntR (K : PySem.W.Frag) (H : Hp) (υ : Ty β) (q : Ent) (x : (Int × Int) × β) : Prop := q.1 = kk x.1 ∧ SqT K H q.2.1 ((kk x.1).map kV) ∧ ∃ v, RelV v q.2.2 ∧ υ.rep K H [] v x.2
theorem EntR.keep (r : EntR K H υ q x) (k : ∀ b o, H b = some o → Froz o → H' b = some o) : EntR K H' υ q x := by
 obtain ⟨e, s, v, rv, r⟩ := r
 exact ⟨e, SqT.keeps s k, v, rv, υ.keep r fun b o hb z => k b o hb (z.elim (fun y => nomatch y) id)⟩
theorem EntR.chg {M : List Addr} (r : EntR K H υ q x) (c : Chg M H H') : EntR K H' υ q x := r.keep fun b o h z => c.keep b o h (.inr z)
end
def yFd {β : Type} (P : Program) (w : World) (υ : Ty β) : Ty (List ((Int × Int) × β)) where
 rep K H F v d := F = [] ∧ ∃ a o xs, v = .ref a ∧ H a = some (.frz o (DictBO P w a xs)) ∧ Paired (EntR K H υ) xs d
 keep {K H H' F v d} h k := by
   obtain ⟨f, a, o, xs, e, g, r⟩ := h
   exact ⟨f, a, o, xs, e, k a _ g (.inr trivial), Paired.mapP r fun _ _ z => EntR.keep z fun b o hb f => k b o hb (.inr f)⟩
 dom {K H F v d} h b m := by rw [h.1] at m; cases m
section
variable {P : Program} {w : World} {K : PySem.W.Frag} {σ σ' : L2.St} {H H' : Hp} {F Fk Fu D0 : List Addr} {ta tb te tk tv : TE} {tt : TT} {v u z : V} {α β γ : Type} {τ : Ty α} {υ : Ty β} {Q : VK} {D : Ends} {g : TG} {ws : List Nat} {xs : List Ent} {d d' : List ((Int × Int) × β)} {k : Int × Int} {x : β}
end
structure FdAt {β : Type} (P : Program) (w : World) (υ : Ty β) (K : PySem.W.Frag) (a : Addr) (o : Obj) (xs : List Ent) (d : List ((Int × Int) × β)) (H : Hp) : Prop where
 g : H a = some (.frz o (DictBO P w a xs))
 ps : Paired (EntR K H υ) xs d
theorem FdAt.of {β : Type} {P : Program} {w : World} {υ : Ty β} {K : PySem.W.Frag} {H : Hp} {F : List Addr} {v : V} {d : List ((Int × Int) × β)} (r : (yFd P w υ).rep K H F v d) : ∃ a o xs, v = .ref a ∧ FdAt P w υ K a o xs d H := by
 obtain ⟨f, a, o, xs, e, g, ps⟩ := r
 exact ⟨a, o, xs, e, g, ps⟩
theorem FdAt.chg {β : Type} {P : Program} {w : World} {υ : Ty β} {K : PySem.W.Frag} {a : Addr} {o : Obj} {xs : List Ent} {d : List ((Int × Int) × β)} {M : List Addr} {H H' : Hp} (r : FdAt P w υ K a o xs d H) (c : Chg M H H') : FdAt P w υ K a o xs d H' := ⟨c.keep _ _ r.g (.inr trivial), Paired.mapP r.ps fun _ _ z => z.chg c⟩
section
variable {P : Program} {w : World} {K : PySem.W.Frag} {σ σ' : L2.St} {H H' H0 : Hp} {F Fk Fu M0 : List Addr} {ta tb te tk tv : TE} {tt : TT} {v u z : V} {α β γ : Type} {τ : Ty α} {υ : Ty β} {ω : Ty γ} {Q : VK} {D : Ends} {g : TG} {ws : List Nat} {xs : List Ent} {d d' : List ((Int × Int) × β)} {k : Int × Int} {x : β}
end
end G
namespace L2
open PySem PySem.Spec PyProof.Rows
section
variable {X : Cx}
end
end L2
namespace G
open PySem PySem.Spec PyProof.Rows L2
section
variable {P : Program} {w : World} {K : PySem.W.Frag} {σ σ' : L2.St} {H H' : Hp} {F Fk Fu : List Addr} {ta tb te : TE} {tt tt1 : TT} {v u z : V} {α β γ : Type} {τ : Ty α} {υ : Ty β} {ω : Ty γ} {Q : VK} {g g1 : TG} {ws ws1 : List Nat} {xs ys : List (Int × Int)} {d : Int × Int}
end
end G
namespace G
open PySem PySem.Spec PyProof.Rows L2
section
variable {P : Program} {w : World} {K : PySem.W.Frag} {σ σ' : L2.St} {H H' : Hp} {F Fk Fu : List Addr} {ta : TA} {te : TE} {tt : TT} {v u z : V} {α β γ : Type} {τ : Ty α} {υ : Ty β} {ω : Ty γ} {Q : VK} {D : Ends} {g : TG} {ws : List Nat}
end
end G
namespace G
open PySem PySem.Spec PyProof.Rows L2
section
variable {P : Program} {w : World} {K : PySem.W.Frag} {σ σ' : L2.St} {H H' : Hp} {F Fk Fu : List Addr} {ta : TA} {te : TE} {tt : TT} {v u z : V} {α β γ : Type} {τ : Ty α} {υ : Ty β} {ω : Ty γ} {Q : VK} {D : Ends} {g : TG} {ws : List Nat}
theorem callR_or {X : Cx} {f : Value} {r1 r2 : List V → Hp → VK → Prop} (h1 : CallR X f r1) (h2 : CallR X f r2) : CallR X f (fun vs H Q => r1 vs H Q ∨ r2 vs H Q) := fun pins s σ H xs us Q hI hV h => by
 rcases h with h | h
 · exact h1 pins s σ H xs us Q hI hV h
 · exact h2 pins s σ H xs us Q hI hV h
def rSortedQ (K : PySem.W.Frag) : List V → Hp → VK → Prop := fun vs H Q => rSortedI K vs H Q ∨ rSortedIT K vs H Q
theorem cl_sortedQ {X : Cx} {K : PySem.W.Frag} (e : X.K = K := by rfl) : CallR X (.builtin "sorted") (rSortedQ K) := callR_or (cl_sortedL e) (cl_sortedT e)
theorem w_sortedQ {d : List Int ⊕ List Int} (r : (ySum (yLst yInt) (yTupL yInt)).rep K H F v d) (k : ∀ p H', H p = none → Chg [] H H' → (yLst yInt).rep K H' [p] (.ref p) (Mi.sortI (Mi.unq d)) → Q (.ref p) H') : rSortedQ K [v] H Q := by
 cases d with
 | inl a => exact .inl (w_sortedL r k)
 | inr a => exact .inr (w_sortedT r k)
end
end G
namespace G
open PySem PySem.Spec PyProof.Rows L2
end G
namespace G
open PySem PySem.Spec PyProof.Rows L2
section
variable {P : Program} {w : World} {K : PySem.W.Frag} {σ σ' : L2.St} {H H' : Hp} {F Fi Fk Fu : List Addr} {ta tb : TE} {v u z : V} {α β γ : Type} {τ : Ty α} {i : Int} {Q : VK}
end
end G
namespace G
open PySem PySem.Spec PyProof.Rows L2
end G
namespace G
open PySem PySem.Spec PyProof.Rows L2
end G
namespace L2
open PySem PySem.Spec PyProof.Rows ItX
section
variable {X : Cx} {C f : Addr} {fd : FuncData} {k : Nat} {ps : List Str} {sp : Sp}
end
end L2
namespace G
open PySem PySem.Spec PyProof.Rows L2
section
variable {X : Cx} {K : PySem.W.Frag} {σ : L2.St} {H : Hp} {F : List Addr} {v x y : V} {Q : VK} {C : Addr} {ns : List Str} {α β : Type} {ts : Tys β} {τ : Ty α} {te ta tb : TE} {tm : Str → TS} {D : Ends} {a : List Nat}
end
end G
namespace G
open PySem PySem.Spec PyProof.Rows L2
section
variable {X : Cx} {K : PySem.W.Frag} {σ : L2.St} {H : Hp} {F F2 : List Addr} {v u : V} {Q : VK} {α β : Type} {τ : Ty α} {xs ys zs : List α} {lo hi : Option Int}
end
end G
namespace G
open PySem PySem.Spec PyProof.Rows L2
def topS (i : Nat) : Stmt := PySem.Challenge.pw_fogfleet_k18_reports_refused.main.body.getD i (.Pass ⟨0, 0, 0, 0⟩)
structure Cs (K : PySem.W.Frag) (mg : Str → Option Value) : Prop where
 c_LAST_HOUR : ∃ t, mg "LAST_HOUR" = some (.int 24 t)
 c_LAST_SHIP : ∃ t, mg "LAST_SHIP" = some (.int 3 t)
 c_MOST_WEIGHT : ∃ t, mg "MOST_WEIGHT" = some (.int 99 t)
 c_PLACES : ∃ t, mg "PLACES" = some (.int 12 t)
 g_InvalidReport : mg "InvalidReport" = some (.ref (He.ga K "InvalidReport"))
 em_InvalidReport_InvalidReport : PySem.W.exmOne K (.ref (He.ga K "InvalidReport")) (.ref (He.ga K "InvalidReport")) = some true
 x_InvalidReport : ErrK K (He.ga K "InvalidReport")
 kt_InvalidReport_InvalidChart_6 : PySem.W.kitAny K (.ref (He.ga K "InvalidReport")) [(.ref (He.ga K "InvalidChart")), (.ref (He.ga K "InvalidLetter")), (.ref (He.ga K "InvalidLight")), (.ref (He.ga K "InvalidOrder")), (.ref (He.ga K "InvalidReceipt")), (.ref (He.ga K "InvalidSetting"))] = some false
 g_InvalidSetting : mg "InvalidSetting" = some (.ref (He.ga K "InvalidSetting"))
 g_InvalidReceipt : mg "InvalidReceipt" = some (.ref (He.ga K "InvalidReceipt"))
 g_InvalidOrder : mg "InvalidOrder" = some (.ref (He.ga K "InvalidOrder"))
 g_InvalidLight : mg "InvalidLight" = some (.ref (He.ga K "InvalidLight"))
 g_InvalidLetter : mg "InvalidLetter" = some (.ref (He.ga K "InvalidLetter"))
 g_InvalidChart : mg "InvalidChart" = some (.ref (He.ga K "InvalidChart"))
 kt_InvalidReport_InvalidShip_7 : PySem.W.kitAny K (.ref (He.ga K "InvalidReport")) [(.ref (He.ga K "InvalidShip")), (.ref (He.ga K "InvalidStay")), (.ref (He.ga K "NoDriving")), (.ref (He.ga K "NoRun")), (.ref (He.ga K "NoSuchNumber")), (.ref (He.ga K "NothingToRedo")), (.ref (He.ga K "NothingToUndo"))] = some false
 g_NothingToUndo : mg "NothingToUndo" = some (.ref (He.ga K "NothingToUndo"))
 g_NothingToRedo : mg "NothingToRedo" = some (.ref (He.ga K "NothingToRedo"))
 g_NoSuchNumber : mg "NoSuchNumber" = some (.ref (He.ga K "NoSuchNumber"))
 g_NoRun : mg "NoRun" = some (.ref (He.ga K "NoRun"))
 g_NoDriving : mg "NoDriving" = some (.ref (He.ga K "NoDriving"))
 g_InvalidStay : mg "InvalidStay" = some (.ref (He.ga K "InvalidStay"))
 g_InvalidShip : mg "InvalidShip" = some (.ref (He.ga K "InvalidShip"))
 kt_InvalidReport_BadClaim_8 : PySem.W.kitAny K (.ref (He.ga K "InvalidReport")) [(.ref (He.ga K "BadClaim")), (.ref (He.ga K "BadText")), (.ref (He.ga K "Contradiction")), (.ref (He.ga K "DoesNotFit")), (.ref (He.ga K "NotInPlay")), (.ref (He.ga K "NoWay")), (.ref (He.ga K "NoWorld")), (.ref (He.ga K "UnknownEntry"))] = some false
 g_UnknownEntry : mg "UnknownEntry" = some (.ref (He.ga K "UnknownEntry"))
 g_NoWorld : mg "NoWorld" = some (.ref (He.ga K "NoWorld"))
 g_NoWay : mg "NoWay" = some (.ref (He.ga K "NoWay"))
 g_NotInPlay : mg "NotInPlay" = some (.ref (He.ga K "NotInPlay"))
 g_DoesNotFit : mg "DoesNotFit" = some (.ref (He.ga K "DoesNotFit"))
 g_Contradiction : mg "Contradiction" = some (.ref (He.ga K "Contradiction"))
 g_BadText : mg "BadText" = some (.ref (He.ga K "BadText"))
 g_BadClaim : mg "BadClaim" = some (.ref (He.ga K "BadClaim"))
 g_FleetError : mg "FleetError" = some (.ref (He.ga K "FleetError"))
 em_InvalidReport_FleetError : PySem.W.exmOne K (.ref (He.ga K "InvalidReport")) (.ref (He.ga K "FleetError")) = some true
 ko_InvalidReport_ValueError : PySem.W.kitOne K (.ref (He.ga K "InvalidReport")) (.type "ValueError") = some true
 n_ValueError : mg "ValueError" = none
 ko_InvalidReport_InvalidReport : PySem.W.kitOne K (.ref (He.ga K "InvalidReport")) (.ref (He.ga K "InvalidReport")) = some true
abbrev nm_Report : List Str := ["ship", "hour", "zone", "weight", "inside"]
abbrev ty_Report : Tys (Int × Int × (List Int) × Int × Bool) := (sCons yInt (sCons yInt (sCons (yTupL yInt) (sCons yInt (sOne yBool)))))
abbrev kw_Report (K : PySem.W.Frag) : List (Str × V) := [("weight", .int 1), ("inside", .bl true)]
section
variable {P : Program} {w : World} {K : PySem.W.Frag} {mg : Str → Option Value}
abbrev s_ascending : Stmt := topS 26
theorem sc_ascending : FnScope ["zone"] ["zone"] (defScope s_ascending) := ⟨rfl, rfl, rfl, by decide +kernel, rfl, by decide +kernel, by decide +kernel⟩
def sp_ascending (K : PySem.W.Frag) : Sp := fun vs H Q _ => ∃ (v0 : V) (F0 : List Addr) (d0 : ((List Int) ⊕ (List Int))) (r : (List Int)), vs = [v0] ∧ (ySum (yLst yInt) (yTupL yInt)).rep K H F0 v0 d0 ∧ Mi.m_ascending d0 = some r ∧ ∀ v H' F, Chg ([]) H H' → (yLst yInt).rep K H' F v r → (∀ a ∈ F, H a = none) → Q v H'
theorem ok_ascending (B : Bi mg) (CN : Cs K mg) (D : Dfn K mg "ascending" s_ascending)  : Cal P w K mg "ascending" ["zone"] 1 (sp_ascending K) := by
 obtain ⟨f, fd, F, g⟩ := D.ex
 refine ⟨f, fd, g, F.kp, bindsF F (fun _ _ _ _ _ _ us hl => match us, hl with | [_], _ => rfl), fun base => F.ok sc_ascending (fun vs H Q E h => ?_) (fun cdv A outer s H0 vs Q E hr h => ?_)⟩
 · obtain ⟨v0, F0, d0, r, rfl, r0, hm, hQ⟩ := h; rfl
 ·
   obtain ⟨v0, F0, d0, r, rfl, r0, hm, hQ⟩ := h
   refine ⟨_, pss_cons (ps_ret (pe_callB (cl_sortedQ (K := K)) (by rfl) B.sorted (by decide +kernel) (pa_cons (pv 0) pa_nil))) pss_nil, ?_⟩
   have c0 : Chg ([] : List Addr) H0 H0 := Chg.refl H0
   unfold Mi.m_ascending at hm
   refine q_ret ?_
   refine w_cb ?_
   refine w_args (va_cons (val_var rfl) va_nil) ?_
   refine w_sortedQ r0 fun p2 H6 np5 c3 r4 => ?_
   have d7 : Dj F0 [p2] := Ty.nin r0 np5
   have n8 : ∀ a ∈ [p2], H0 a = none := one_fresh (c0.dom p2 np5)
   have r0 := Ty.ex r0 c3
   have c0 := c0.trans c3.none
   obtain rfl := Option.some.inj hm
   exact hQ _ _ _ c0 r4 n8 
abbrev s_is_zone : Stmt := topS 27
theorem sc_is_zone : FnScope ["zone", "size", "found", "place"] ["zone", "size"] (defScope s_is_zone) := ⟨rfl, rfl, rfl, by decide +kernel, rfl, by decide +kernel, by decide +kernel⟩
def sp_is_zone (K : PySem.W.Frag) : Sp := fun vs H Q _ => ∃ (v0 : V) (F0 : List Addr) (d0 : ((List Int) ⊕ (List Int))) (d1 : Int) (r : Bool), vs = [v0, (.int d1)] ∧ (ySum (yLst yInt) (yTupL yInt)).rep K H F0 v0 d0 ∧ Mi.m_is_zone d0 d1 = some r ∧ ∀ H', Chg ([]) H H' → Q (.bl r) H'
theorem ok_is_zone (B : Bi mg) (CN : Cs K mg) (D : Dfn K mg "is_zone" s_is_zone)  : Cal P w K mg "is_zone" ["zone", "size"] 1 (sp_is_zone K) := by
 obtain ⟨f, fd, F, g⟩ := D.ex
 refine ⟨f, fd, g, F.kp, bindsF F (fun _ _ _ _ _ _ us hl => match us, hl with | [_, _], _ => rfl), fun base => F.ok sc_is_zone (fun vs H Q E h => ?_) (fun cdv A outer s H0 vs Q E hr h => ?_)⟩
 · obtain ⟨v0, F0, d0, d1, r, rfl, r0, hm, hQ⟩ := h; rfl
 ·
   obtain ⟨v0, F0, d0, d1, r, rfl, r0, hm, hQ⟩ := h
   refine ⟨_, pss_cons (ps_set (i := 2) sc_is_zone.nd rfl (.inl rfl) (pe_callTy0 (cl_set0 (w := w)) (by rfl) B.set (by decide +kernel)))
     (pss_cons (ps_for PassesOwn.never rfl (pi_or (pi_list (pv 0)) (pi_tup (pv 0))) (pg_name (i := 3) sc_is_zone.nd rfl (.inl rfl)) (pss_cons (ps_if (PW.pt (pw_or (pt_cmpR op_lt (pv 3) pe_int (nomark _)) (pw_or (pt_cmpR op_ge (pv 3) (pv 1) (nomark _)) (pw_or1 (pt_cmpR (op_in_s (w := w)) (pv 3) (pv 2) (by rfl)))))) (pss_cons (ps_ret pe_bl) pss_nil) (pss_nil))
     (pss_cons (ps_expr (pe_sadd (pv 2) (pa_cons (pv 3) pa_nil)))
     (pss_nil))))
     (pss_cons (ps_ret pe_bl) pss_nil)), ?_⟩
   have c0 : Chg ([] : List Addr) H0 H0 := Chg.refl H0
   unfold Mi.m_is_zone at hm
   refine q_asg ?_
   refine w_cb ?_
   refine w_nil ?_
   refine w_set0 (K := K) (w := w) fun p3 H7 np6 c4 r5 => ?_
   have d8 : Dj F0 [p3] := Ty.nin r0 np6
   have n9 : ∀ a ∈ [p3], H0 a = none := one_fresh (c0.dom p3 np6)
   have r0 := Ty.ex r0 c4
   have c0 := c0.trans c4.none
   refine g_name (σ' := [some v0, some (.int d1), some (.ref p3), none]) rfl ?_
   refine q_for ?_
   obtain ⟨e10, he10, hm⟩ := Mi.bnd hm
   refine l_q (val_var rfl) r0 (fun i σ' H' => ∃ (s11 : (List Int)) (y12 : Option V), σ' = [some v0, some (.int d1), some (.ref p3), y12] ∧ Chg ([] : List Addr) H0 H' ∧ (ySum (yLst yInt) (yTupL yInt)).rep K H' F0 v0 d0 ∧ (ySet w).rep K H' [p3] (.ref p3) s11 ∧ Mi.forR (Mi.m_is_zone_b1 d1) s11 (List.drop i (Mi.unq d0)) = some e10) ⟨([] : List Int), none, rfl, c0, r0, r5, he10⟩ (fun i σ' H' hp => by obtain ⟨s11, y12, rfl, c0, r0, r5, _⟩ := hp; exact r0) (fun i15 x14 u16 σ' H' hx13 r17 hp => ?_) (fun σ' H' hp => ?_)
   ·
     obtain ⟨s11, y12, rfl, c0, r0, r5, hle10⟩ := hp
     obtain ⟨o18, hbe10, hore10⟩ := Mi.forR_go hle10 hx13
     unfold Mi.m_is_zone_b1 at hbe10
     obtain ⟨_, rfl⟩ := r17
     refine g_name (σ' := [some v0, some (.int d1), some (.ref p3), some (.int x14)]) rfl ?_
     refine q_if (ans_orB (ans_t (val_lt (val_var rfl) val_c)) (fun _ => (ans_orB (ans_t (val_ge (val_var rfl) (val_var rfl))) (fun _ => (ans_t (val_inS r5 (val_var rfl) (val_var rfl))))))) (fun hb => ?_) (fun hb => ?_)
     ·
       replace hbe10 := Mi.ifT hb hbe10
       refine q_ret ?_
       refine c_val val_c ?_
       obtain rfl := Option.some.inj hbe10
       obtain rfl := Mi.or_inl hore10
       obtain rfl := Option.some.inj (Mi.orR_inl hm)
       exact hQ _ c0 
     replace hbe10 := Mi.ifF hb hbe10
     refine w_fall ?_
     refine q_drop (w_sadd (c_val (val_var rfl) ⟨tyv_set r5, ?_⟩))
     refine w_args (va_cons (val_var rfl) va_nil) ?_
     obtain ⟨x21, hx21, hbe10⟩ := Mi.bnd hbe10
     refine m_sadd r5 hx21 fun H23 c22 r5 => ?_
     have r0 := Ty.chg r0 c22 d8
     have c0 := c0.join c22 (fun a h => .inr (n9 a h))
     refine w_nextJ ?_
     obtain rfl := Option.some.inj hbe10
     replace hore10 := Mi.or_inr hore10
     exact ⟨_, (some (.int x14)), rfl, c0, r0, r5, hore10⟩
   obtain ⟨s11, y12, rfl, c0, r0, r5, hle10⟩ := hp
   obtain rfl := Mi.forR_end hle10
   replace hm := Mi.orR_inr hm
   refine q_ret ?_
   refine c_val val_c ?_
   obtain rfl := Option.some.inj hm
   exact hQ _ c0 
abbrev s_Report_init : Stmt := inClass (topS 33) 0
theorem sc_Report_init : FnScope ["self", "ship", "hour", "zone", "weight", "inside"] ["self", "ship", "hour", "zone", "weight", "inside"] (defScope s_Report_init) := ⟨rfl, rfl, rfl, by decide +kernel, rfl, by decide +kernel, by decide +kernel⟩
def sp_Report_init (K : PySem.W.Frag) (C_Report : Addr) : Sp := fun vs H Q _ => ∃ (x0 dx0 : Addr) (d1 : Int) (d2 : Int) (v3 : V) (F3 : List Addr) (d3 : ((List Int) ⊕ (List Int))) (d4 : Int) (d5 : Bool) (r : (Int × Int × (List Int) × Int × Bool)), vs = [.ref x0, (.int d1), (.int d2), v3, (.int d4), (.bl d5)] ∧ (yPart C_Report dx0 []).rep K H [x0] (.ref x0) [] ∧ (ySum (yLst yInt) (yTupL yInt)).rep K H F3 v3 d3 ∧ Dj [x0] F3 ∧ Mi.m_Report_init d1 d2 d3 d4 d5 = some r ∧ ∀ H', Chg [x0] H H' → (yObj C_Report nm_Report ty_Report).rep K H' [] (.ref x0) r → Q .non H'
theorem ok_Report_init (B : Bi mg) (CN : Cs K mg) {C_Report : Addr} (T_Report : Tx K mg C_Report "Report" nm_Report) (C_ascending : Cal P w K mg "ascending" ["zone"] 1 (sp_ascending K)) (C_is_zone : Cal P w K mg "is_zone" ["zone", "size"] 1 (sp_is_zone K)) (D : DfnI K C_Report "Report.__init__" s_Report_init (kw_Report K) ) : CalI P w K mg C_Report "Report.__init__" s_Report_init (kw_Report K) ["self", "ship", "hour", "zone", "weight", "inside"] 2 (sp_Report_init K C_Report) := by
 obtain ⟨f, fd, F, g⟩ := D.ex
 refine ⟨f, fd, g, F, fun base => okD F sc_Report_init (fun vs H Q E h => ?_) (fun cdv A outer s H0 vs Q E hr h => ?_)⟩
 · obtain ⟨x0, dx0, d1, d2, v3, F3, d3, d4, d5, r, rfl, rs, r3, dd0_3, hm, hQ⟩ := h; rfl
 ·
   obtain ⟨x0, dx0, d1, d2, v3, F3, d3, d4, d5, r, rfl, rs, r3, dd0_3, hm, hQ⟩ := h
   refine ⟨_, pss_cons (ps_if (PW.pt (pw_or (pt_cmpR op_lt (pv 1) pe_int (nomark _)) (pw_or1 (pt_cmpR op_gt (pv 1) (pe_glob (v := .int 3) (by rfl) CN.c_LAST_SHIP.choose_spec ⟨_, rfl⟩) (nomark _))))) (pss_cons ps_never pss_nil) (pss_nil))
     (pss_cons (ps_if (PW.pt (pw_or (pt_cmpR op_lt (pv 2) pe_int (nomark _)) (pw_or1 (pt_cmpR op_gt (pv 2) (pe_glob (v := .int 24) (by rfl) CN.c_LAST_HOUR.choose_spec ⟨_, rfl⟩) (nomark _))))) (pss_cons ps_never pss_nil) (pss_nil))
     (pss_cons (ps_if (pt_not (pt_val (pe_cc C_is_zone hr (pa_cons (pv 3) (pa_cons (pe_glob (v := .int 12) (by rfl) CN.c_PLACES.choose_spec ⟨_, rfl⟩) pa_nil))))) (pss_cons ps_never pss_nil) (pss_nil))
     (pss_cons (ps_if (PW.pt (pw_or (pt_cmpR op_lt (pv 4) pe_int (nomark _)) (pw_or1 (pt_cmpR op_gt (pv 4) (pe_glob (v := .int 99) (by rfl) CN.c_MOST_WEIGHT.choose_spec ⟨_, rfl⟩) (nomark _))))) (pss_cons ps_never pss_nil) (pss_nil))
     (pss_cons (ps_fld (pv 0) (pv 1) rfl)
     (pss_cons (ps_fld (pv 0) (pv 2) rfl)
     (pss_cons (ps_fld (pv 0) (pe_callTy (cl_tuple (K := K)) (by rfl) B.tuple (by decide +kernel) (pa_cons (pe_cc C_ascending hr (pa_cons (pv 3) pa_nil)) pa_nil)) rfl)
     (pss_cons (ps_fld (pv 0) (pv 4) rfl)
     (pss_cons (ps_fld (pv 0) (pv 5) rfl)
     (pss_nil))))))))), ?_⟩
   have c0 : Chg ([x0]) H0 H0 := Chg.refl H0
   unfold Mi.m_Report_init at hm
   refine q_if (ans_orB (ans_t (val_lt (val_var rfl) val_c)) (fun _ => (ans_t (val_gt (val_var rfl) val_c)))) (fun hb => ?_) (fun hb => ?_)
   ·
     replace hm := Mi.ifT hb hm
     cases hm
   replace hm := Mi.ifF hb hm
   refine w_fall ?_
   refine q_if (ans_orB (ans_t (val_lt (val_var rfl) val_c)) (fun _ => (ans_t (val_gt (val_var rfl) val_c)))) (fun hb => ?_) (fun hb => ?_)
   ·
     replace hm := Mi.ifT hb hm
     cases hm
   replace hm := Mi.ifF hb hm
   refine w_fall ?_
   refine q_ifS ?_
   refine w_not ?_
   refine w_B ?_
   refine w_call ?_
   refine w_args (va_cons (val_var rfl) (va_cons val_c va_nil)) ?_
   obtain ⟨q9, hq9, hm⟩ := Mi.bnd hm
   refine ⟨v3, F3, d3, (12 : Int), q9, rfl, r3, hq9, fun H11 c10  => ?_⟩
   have rs := Ty.ex rs c10
   have r3 := Ty.ex r3 c10
   have c0 := c0.trans c10.none
   refine ⟨_, rfl, ?_⟩
   refine c_if (fun hb => ?_) (fun hb => ?_)
   ·
     replace hm := Mi.ifT hb hm
     cases hm
   replace hm := Mi.ifF hb hm
   refine w_fall ?_
   refine q_if (ans_orB (ans_t (val_lt (val_var rfl) val_c)) (fun _ => (ans_t (val_gt (val_var rfl) val_c)))) (fun hb => ?_) (fun hb => ?_)
   ·
     replace hm := Mi.ifT hb hm
     cases hm
   replace hm := Mi.ifF hb hm
   refine w_fall ?_
   refine q_fld ?_
   refine c_val (val_var rfl) ?_
   refine c_val (val_var rfl) ?_
   refine m_fldP rs T_Report.cls (T_Report.na "ship" (by decide +kernel)) (by decide +kernel) rfl (by decide) rfl fun H14 c13 rs => ?_
   have r3 := Ty.chg r3 c13 dd0_3.symm
   have c0 := c0.join c13 (fun a h => .inl (h))
   have rs : (yPart C_Report dx0 (["ship"] : List Str)).rep K _ [x0] (.ref x0) [(.int d1)] := rs
   refine q_fld ?_
   refine c_val (val_var rfl) ?_
   refine c_val (val_var rfl) ?_
   refine m_fldP rs T_Report.cls (T_Report.na "hour" (by decide +kernel)) (by decide +kernel) rfl (by decide) rfl fun H16 c15 rs => ?_
   have r3 := Ty.chg r3 c15 dd0_3.symm
   have c0 := c0.join c15 (fun a h => .inl (h))
   have rs : (yPart C_Report dx0 (["ship", "hour"] : List Str)).rep K _ [x0] (.ref x0) [(.int d1), (.int d2)] := rs
   refine q_fld ?_
   refine w_cb ?_
   refine w_cons ?_
   refine w_call ?_
   refine w_args (va_cons (val_var rfl) va_nil) ?_
   obtain ⟨q17, hq17, hm⟩ := Mi.bnd hm
   refine ⟨v3, F3, d3, q17, rfl, r3, hq17, fun v20 H19 F22 c18 r21 fr23  => ?_⟩
   have d24 : Dj [x0] F22 := Ty.fresh rs fr23
   have d25 : Dj F3 F22 := Ty.fresh r3 fr23
   have n26 : ∀ a ∈ F22, H0 a = none := fun a h => c0.dom a (fr23 a h)
   have rs := Ty.ex rs c18
   have r3 := Ty.ex r3 c18
   have c0 := c0.trans c18.none
   refine w_nil ?_
   refine w_tupleL r21 fun v27 H28 c29 r30 => ?_
   have rs := Ty.ex rs c29
   have r3 := Ty.ex r3 c29
   have r21 := Ty.ex r21 c29
   have c0 := c0.trans c29.none
   refine c_val (val_var rfl) ?_
   refine m_fldP rs T_Report.cls (T_Report.na "zone" (by decide +kernel)) (by decide +kernel) rfl (by decide) rfl fun H32 c31 rs => ?_
   have r3 := Ty.chg r3 c31 dd0_3.symm
   have r30 := Ty.fz r30 c31
   have c0 := c0.join c31 (fun a h => .inl (h))
   have rs : (yPart C_Report dx0 (["ship", "hour", "zone"] : List Str)).rep K _ [x0] (.ref x0) [(.int d1), (.int d2), v27] := rs
   refine q_fld ?_
   refine c_val (val_var rfl) ?_
   refine c_val (val_var rfl) ?_
   refine m_fldP rs T_Report.cls (T_Report.na "weight" (by decide +kernel)) (by decide +kernel) rfl (by decide) rfl fun H34 c33 rs => ?_
   have r3 := Ty.chg r3 c33 dd0_3.symm
   have r30 := Ty.fz r30 c33
   have c0 := c0.join c33 (fun a h => .inl (h))
   have rs : (yPart C_Report dx0 (["ship", "hour", "zone", "weight"] : List Str)).rep K _ [x0] (.ref x0) [(.int d1), (.int d2), v27, (.int d4)] := rs
   refine q_fld ?_
   refine c_val (val_var rfl) ?_
   refine c_val (val_var rfl) ?_
   refine m_fldE (ts := ty_Report) (d := (d1, d2, q17, d4, d5)) rs T_Report.cls (T_Report.na "inside" (by decide +kernel)) (by decide +kernel) rfl (by decide) rfl ⟨_, _, _, _, rfl, rfl, yInt_i, ⟨_, _, _, _, rfl, rfl, yInt_i, ⟨_, _, _, _, rfl, rfl, r30, ⟨_, _, _, _, rfl, rfl, yInt_i, ⟨_, rfl, yBool_i⟩⟩⟩⟩⟩ fun H36 c35 rs => ?_
   have r3 := Ty.chg r3 c35 dd0_3.symm
   have r30 := Ty.fz r30 c35
   have c0 := c0.join c35 (fun a h => .inl (h))
   refine w_next ?_
   obtain rfl := Option.some.inj hm
   exact hQ _ c0 rs
abbrev s_Report_init_x : Stmt := inClass (topS 33) 0
theorem sc_Report_init_x : FnScope ["self", "ship", "hour", "zone", "weight", "inside"] ["self", "ship", "hour", "zone", "weight", "inside"] (defScope s_Report_init_x) := ⟨rfl, rfl, rfl, by decide +kernel, rfl, by decide +kernel, by decide +kernel⟩
def sp_Report_init_x (K : PySem.W.Frag) (C_Report : Addr) : Sp := fun vs H Q E => ∃ (x0 dx0 : Addr) (d1 : Int) (d2 : Int) (v3 : V) (F3 : List Addr) (d3 : ((List Int) ⊕ (List Int))) (d4 : Int) (d5 : Bool) (r : ((List Nat) ⊕ (Int × Int × (List Int) × Int × Bool))), vs = [.ref x0, (.int d1), (.int d2), v3, (.int d4), (.bl d5)] ∧ (yPart C_Report dx0 []).rep K H [x0] (.ref x0) [] ∧ (ySum (yLst yInt) (yTupL yInt)).rep K H F3 v3 d3 ∧ Dj [x0] F3 ∧ Mi.m_Report_init_x d1 d2 d3 d4 d5 = some r ∧ (∀ y, r = .inl y → ∀ d H', Chg ([x0]) H H' → H' d = none → E (.ref (He.ga K "InvalidReport")) (some d) (upd H' d (.xd [(("part" : Str), (.str (toS y)))]))) ∧ ∀ ra, r = .inr ra → ∀ H', Chg [x0] H H' → (yObj C_Report nm_Report ty_Report).rep K H' [] (.ref x0) ra → Q .non H'
theorem ok_Report_init_x (B : Bi mg) (CN : Cs K mg) {C_Report : Addr} (T_Report : Tx K mg C_Report "Report" nm_Report) (T_InvalidReport : PySem.ErrX.ErrTxt P K mg "InvalidReport" "InvalidReport.__init__" (inClass (topS 6) 0) (He.ga K "InvalidReport") (He.fAd K ("InvalidReport", some "__init__"))) (C_ascending : Cal P w K mg "ascending" ["zone"] 1 (sp_ascending K)) (C_is_zone : Cal P w K mg "is_zone" ["zone", "size"] 1 (sp_is_zone K)) (D : DfnI K C_Report "Report.__init__" s_Report_init_x (kw_Report K)) : CalIX P w K mg C_Report "Report.__init__" s_Report_init_x (kw_Report K) ["self", "ship", "hour", "zone", "weight", "inside"] 2 (sp_Report_init_x K C_Report) := by
 obtain ⟨f, fd, F, g⟩ := D.ex
 refine ⟨f, fd, g, F, fun base => FunD.ok (CX := L2.CX P w) F sc_Report_init_x (fun vs H Q E h => ?_) (fun cdv A outer s H0 vs Q E hr h => ?_)⟩
 · obtain ⟨x0, dx0, d1, d2, v3, F3, d3, d4, d5, r, rfl, rs, r3, dd0_3, hm, hE, hQ⟩ := h; rfl
 ·
   obtain ⟨x0, dx0, d1, d2, v3, F3, d3, d4, d5, r, rfl, rs, r3, dd0_3, hm, hE, hQ⟩ := h
   refine ⟨_, pss_cons (ps_if (PW.pt (pw_or (pt_cmpR op_lt (pv 1) pe_int (nomark _)) (pw_or1 (pt_cmpR op_gt (pv 1) (pe_glob (v := .int 3) (by rfl) CN.c_LAST_SHIP.choose_spec ⟨_, rfl⟩) (nomark _))))) (pss_cons (ps_raise rfl (takes_of rfl rfl rfl rfl) (pmk_err T_InvalidReport hr (pa_cons pe_str pa_nil))) pss_nil) (pss_nil))
     (pss_cons (ps_if (PW.pt (pw_or (pt_cmpR op_lt (pv 2) pe_int (nomark _)) (pw_or1 (pt_cmpR op_gt (pv 2) (pe_glob (v := .int 24) (by rfl) CN.c_LAST_HOUR.choose_spec ⟨_, rfl⟩) (nomark _))))) (pss_cons (ps_raise rfl (takes_of rfl rfl rfl rfl) (pmk_err T_InvalidReport hr (pa_cons pe_str pa_nil))) pss_nil) (pss_nil))
     (pss_cons (ps_if (pt_not (pt_val (pe_cc C_is_zone hr (pa_cons (pv 3) (pa_cons (pe_glob (v := .int 12) (by rfl) CN.c_PLACES.choose_spec ⟨_, rfl⟩) pa_nil))))) (pss_cons (ps_raise rfl (takes_of rfl rfl rfl rfl) (pmk_err T_InvalidReport hr (pa_cons pe_str pa_nil))) pss_nil) (pss_nil))
     (pss_cons (ps_if (PW.pt (pw_or (pt_cmpR op_lt (pv 4) pe_int (nomark _)) (pw_or1 (pt_cmpR op_gt (pv 4) (pe_glob (v := .int 99) (by rfl) CN.c_MOST_WEIGHT.choose_spec ⟨_, rfl⟩) (nomark _))))) (pss_cons (ps_raise rfl (takes_of rfl rfl rfl rfl) (pmk_err T_InvalidReport hr (pa_cons pe_str pa_nil))) pss_nil) (pss_nil))
     (pss_cons (ps_fld (pv 0) (pv 1) rfl)
     (pss_cons (ps_fld (pv 0) (pv 2) rfl)
     (pss_cons (ps_fld (pv 0) (pe_callTy (cl_tuple (K := K)) (by rfl) B.tuple (by decide +kernel) (pa_cons (pe_cc C_ascending hr (pa_cons (pv 3) pa_nil)) pa_nil)) rfl)
     (pss_cons (ps_fld (pv 0) (pv 4) rfl)
     (pss_cons (ps_fld (pv 0) (pv 5) rfl)
     (pss_nil))))))))), ?_⟩
   have c0 : Chg ([x0]) H0 H0 := Chg.refl H0
   unfold Mi.m_Report_init_x at hm
   refine q_if (ans_orB (ans_t (val_lt (val_var rfl) val_c)) (fun _ => (ans_t (val_gt (val_var rfl) val_c)))) (fun hb => ?_) (fun hb => ?_)
   ·
     replace hm := Mi.ifT hb hm
     obtain rfl := Option.some.inj hm
     exact q_raise (val_cS (a := ([115, 104, 105, 112] : List Nat)) (by decide +kernel)) (by decide) (fun d nd => hE _ rfl d _ c0 nd)
   replace hm := Mi.ifF hb hm
   refine w_fall ?_
   refine q_if (ans_orB (ans_t (val_lt (val_var rfl) val_c)) (fun _ => (ans_t (val_gt (val_var rfl) val_c)))) (fun hb => ?_) (fun hb => ?_)
   ·
     replace hm := Mi.ifT hb hm
     obtain rfl := Option.some.inj hm
     exact q_raise (val_cS (a := ([104, 111, 117, 114] : List Nat)) (by decide +kernel)) (by decide) (fun d nd => hE _ rfl d _ c0 nd)
   replace hm := Mi.ifF hb hm
   refine w_fall ?_
   refine q_ifS ?_
   refine w_not ?_
   refine w_B ?_
   refine w_call ?_
   refine w_args (va_cons (val_var rfl) (va_cons val_c va_nil)) ?_
   obtain ⟨q9, hq9, hm⟩ := Mi.bnd hm
   refine ⟨v3, F3, d3, (12 : Int), q9, rfl, r3, hq9, fun H11 c10  => ?_⟩
   have rs := Ty.ex rs c10
   have r3 := Ty.ex r3 c10
   have c0 := c0.trans c10.none
   refine ⟨_, rfl, ?_⟩
   refine c_if (fun hb => ?_) (fun hb => ?_)
   ·
     replace hm := Mi.ifT hb hm
     obtain rfl := Option.some.inj hm
     exact q_raise (val_cS (a := ([122, 111, 110, 101] : List Nat)) (by decide +kernel)) (by decide) (fun d nd => hE _ rfl d _ c0 nd)
   replace hm := Mi.ifF hb hm
   refine w_fall ?_
   refine q_if (ans_orB (ans_t (val_lt (val_var rfl) val_c)) (fun _ => (ans_t (val_gt (val_var rfl) val_c)))) (fun hb => ?_) (fun hb => ?_)
   ·
     replace hm := Mi.ifT hb hm
     obtain rfl := Option.some.inj hm
     exact q_raise (val_cS (a := ([119, 101, 105, 103, 104, 116] : List Nat)) (by decide +kernel)) (by decide) (fun d nd => hE _ rfl d _ c0 nd)
   replace hm := Mi.ifF hb hm
   refine w_fall ?_
   refine q_fld ?_
   refine c_val (val_var rfl) ?_
   refine c_val (val_var rfl) ?_
   refine m_fldP rs T_Report.cls (T_Report.na "ship" (by decide +kernel)) (by decide +kernel) rfl (by decide) rfl fun H14 c13 rs => ?_
   have r3 := Ty.chg r3 c13 dd0_3.symm
   have c0 := c0.join c13 (fun a h => .inl (h))
   have rs : (yPart C_Report dx0 (["ship"] : List Str)).rep K _ [x0] (.ref x0) [(.int d1)] := rs
   refine q_fld ?_
   refine c_val (val_var rfl) ?_
   refine c_val (val_var rfl) ?_
   refine m_fldP rs T_Report.cls (T_Report.na "hour" (by decide +kernel)) (by decide +kernel) rfl (by decide) rfl fun H16 c15 rs => ?_
   have r3 := Ty.chg r3 c15 dd0_3.symm
   have c0 := c0.join c15 (fun a h => .inl (h))
   have rs : (yPart C_Report dx0 (["ship", "hour"] : List Str)).rep K _ [x0] (.ref x0) [(.int d1), (.int d2)] := rs
   refine q_fld ?_
   refine w_cb ?_
   refine w_cons ?_
   refine w_call ?_
   refine w_args (va_cons (val_var rfl) va_nil) ?_
   obtain ⟨q17, hq17, hm⟩ := Mi.bnd hm
   refine ⟨v3, F3, d3, q17, rfl, r3, hq17, fun v20 H19 F22 c18 r21 fr23  => ?_⟩
   have d24 : Dj [x0] F22 := Ty.fresh rs fr23
   have d25 : Dj F3 F22 := Ty.fresh r3 fr23
   have n26 : ∀ a ∈ F22, H0 a = none := fun a h => c0.dom a (fr23 a h)
   have rs := Ty.ex rs c18
   have r3 := Ty.ex r3 c18
   have c0 := c0.trans c18.none
   refine w_nil ?_
   refine w_tupleL r21 fun v27 H28 c29 r30 => ?_
   have rs := Ty.ex rs c29
   have r3 := Ty.ex r3 c29
   have r21 := Ty.ex r21 c29
   have c0 := c0.trans c29.none
   refine c_val (val_var rfl) ?_
   refine m_fldP rs T_Report.cls (T_Report.na "zone" (by decide +kernel)) (by decide +kernel) rfl (by decide) rfl fun H32 c31 rs => ?_
   have r3 := Ty.chg r3 c31 dd0_3.symm
   have r30 := Ty.fz r30 c31
   have c0 := c0.join c31 (fun a h => .inl (h))
   have rs : (yPart C_Report dx0 (["ship", "hour", "zone"] : List Str)).rep K _ [x0] (.ref x0) [(.int d1), (.int d2), v27] := rs
   refine q_fld ?_
   refine c_val (val_var rfl) ?_
   refine c_val (val_var rfl) ?_
   refine m_fldP rs T_Report.cls (T_Report.na "weight" (by decide +kernel)) (by decide +kernel) rfl (by decide) rfl fun H34 c33 rs => ?_
   have r3 := Ty.chg r3 c33 dd0_3.symm
   have r30 := Ty.fz r30 c33
   have c0 := c0.join c33 (fun a h => .inl (h))
   have rs : (yPart C_Report dx0 (["ship", "hour", "zone", "weight"] : List Str)).rep K _ [x0] (.ref x0) [(.int d1), (.int d2), v27, (.int d4)] := rs
   refine q_fld ?_
   refine c_val (val_var rfl) ?_
   refine c_val (val_var rfl) ?_
   refine m_fldE (ts := ty_Report) (d := (d1, d2, q17, d4, d5)) rs T_Report.cls (T_Report.na "inside" (by decide +kernel)) (by decide +kernel) rfl (by decide) rfl ⟨_, _, _, _, rfl, rfl, yInt_i, ⟨_, _, _, _, rfl, rfl, yInt_i, ⟨_, _, _, _, rfl, rfl, r30, ⟨_, _, _, _, rfl, rfl, yInt_i, ⟨_, rfl, yBool_i⟩⟩⟩⟩⟩ fun H36 c35 rs => ?_
   have r3 := Ty.chg r3 c35 dd0_3.symm
   have r30 := Ty.fz r30 c35
   have c0 := c0.join c35 (fun a h => .inl (h))
   refine w_next ?_
   obtain rfl := Option.some.inj hm
   exact hQ _ rfl _ c0 rs
abbrev s_l_hand : Stmt := topS 35
theorem sc_l_hand : FnScope ["_law_script", "_law_k", "_law_cell", "_law_rest"] ["_law_script", "_law_k"] (defScope s_l_hand) := ⟨rfl, rfl, rfl, by decide +kernel, rfl, by decide +kernel, by decide +kernel⟩
def sp_l_hand (K : PySem.W.Frag) : Sp := fun vs H Q _ => ∃ (v0 : V) (d0 : (List Int)) (d1 : Int) (r : (List Int)), vs = [v0, (.int d1)] ∧ yScr.rep K H [] v0 d0 ∧ Mi.m_l_hand d0 d1 = some r ∧ ∀ v H' F, Chg ([]) H H' → (yLst yInt).rep K H' F v r → (∀ a ∈ F, H a = none) → Q v H'
theorem ok_l_hand (B : Bi mg) (CN : Cs K mg) (D : Dfn K mg "_law_hand" s_l_hand)  : Cal P w K mg "_law_hand" ["_law_script", "_law_k"] 1 (sp_l_hand K) := by
 obtain ⟨f, fd, F, g⟩ := D.ex
 refine ⟨f, fd, g, F.kp, bindsF F (fun _ _ _ _ _ _ us hl => match us, hl with | [_, _], _ => rfl), fun base => F.ok sc_l_hand (fun vs H Q E h => ?_) (fun cdv A outer s H0 vs Q E hr h => ?_)⟩
 · obtain ⟨v0, d0, d1, r, rfl, r0, hm, hQ⟩ := h; rfl
 ·
   obtain ⟨v0, d0, d1, r, rfl, r0, hm, hQ⟩ := h
   refine ⟨_, pss_cons (ps_set (i := 2) sc_l_hand.nd rfl (.inl rfl) pe_int)
     (pss_cons (ps_if (pt_cmpR op_lt (pv 1) (pe_callB (cl_len (K := K)) (by rfl) B.len PySem.boot_len (pa_cons (pv 0) pa_nil)) (nomark _)) (pss_cons (ps_set (i := 2) sc_l_hand.nd rfl (.inl rfl) (pe_ix (ix_l (K := K)) (pv 0) (pv 1) (fun _ _ => rfl)))
     (pss_nil)) (pss_nil))
     (pss_cons (ps_if (pt_cmpR op_lt (pv 2) pe_int (nomark _)) (pss_cons (ps_set (i := 2) sc_l_hand.nd rfl (.inl rfl) (pe_op op_sub pe_int (pe_op op_mul pe_int (pv 2))))
     (pss_nil)) (pss_nil))
     (pss_cons (ps_set (i := 3) sc_l_hand.nd rfl (.inl rfl) pe_int)
     (pss_cons (ps_if (pt_cmpR op_ge (pv 2) (pe_op op_pow pe_int pe_int) (nomark _)) (pss_cons (ps_set (i := 3) sc_l_hand.nd rfl (.inl rfl) (pv 2))
     (pss_nil)) (pss_nil))
     (pss_cons (ps_ret (pe_lst (pa_cons (pv 3) (pa_cons (pe_op op_mod (pe_callTy cl_int (by rfl) B.int (by decide +kernel) (pa_cons (pe_op op_add (pe_op op_add (pv 2) (pe_op op_mul pe_int (pv 1))) pe_int) pa_nil)) pe_int) (pa_cons pe_int pa_nil))))) pss_nil))))), ?_⟩
   have c0 : Chg ([] : List Addr) H0 H0 := Chg.refl H0
   unfold Mi.m_l_hand at hm
   obtain ⟨cell3, hcell3, hm⟩ := Mi.letE hm
   refine q_setE val_c (congrArg V.int hcell3) (σ' := [some v0, some (.int d1), some (.int cell3), none]) rfl ?_
   obtain ⟨s4, hs4, hm⟩ := Mi.bnd hm
   refine s_join (R := fun σ' H' => σ' = [some v0, some (.int d1), some (.int s4), none] ∧ Chg ([] : List Addr) H0 H' ∧ yScr.rep K H' [] v0 d0) (fun nx kx => ?_) (fun σ' H' hj => ?_)
   ·
     refine s_if (ans_t (val_lt (val_var rfl) (val_lenS r0 (val_var rfl)))) (fun hb => ?_) (fun hb => ?_)
     ·
       replace hs4 := Mi.ifT hb hs4
       obtain ⟨x5, hx5, hs4⟩ := Mi.bnd hs4
       obtain ⟨cell6, hcell6, hs4⟩ := Mi.letE hs4
       refine q_setE (itm_S r0 hx5 (val_var rfl) (val_var rfl)) (congrArg V.int hcell6) (σ' := [some v0, some (.int d1), some (.int cell6), none]) rfl ?_
       refine w_nextJ ?_
       obtain rfl := Option.some.inj hs4
       exact kx _ _ ⟨rfl, c0, r0⟩
     ·
       replace hs4 := Mi.ifF hb hs4
       refine w_nextJ ?_
       obtain rfl := Option.some.inj hs4
       exact kx _ _ ⟨rfl, c0, r0⟩
   obtain ⟨rfl, c0, r0⟩ := hj
   obtain ⟨s7, hs7, hm⟩ := Mi.bnd hm
   refine s_join (R := fun σ' H' => σ' = [some v0, some (.int d1), some (.int s7), none] ∧ Chg ([] : List Addr) H0 H' ∧ yScr.rep K H' [] v0 d0) (fun nx kx => ?_) (fun σ' H' hj => ?_)
   ·
     refine s_if (ans_t (val_lt (val_var rfl) val_c)) (fun hb => ?_) (fun hb => ?_)
     ·
       replace hs7 := Mi.ifT hb hs7
       obtain ⟨cell8, hcell8, hs7⟩ := Mi.letE hs7
       refine q_setE (val_sub val_c (val_mulL val_c (val_var rfl) ⟨by decide, by decide⟩)) (congrArg V.int hcell8) (σ' := [some v0, some (.int d1), some (.int cell8), none]) rfl ?_
       refine w_nextJ ?_
       obtain rfl := Option.some.inj hs7
       exact kx _ _ ⟨rfl, c0, r0⟩
     ·
       replace hs7 := Mi.ifF hb hs7
       refine w_nextJ ?_
       obtain rfl := Option.some.inj hs7
       exact kx _ _ ⟨rfl, c0, r0⟩
   obtain ⟨rfl, c0, r0⟩ := hj
   obtain ⟨rest9, hrest9, hm⟩ := Mi.letE hm
   refine q_setE val_c (congrArg V.int hrest9) (σ' := [some v0, some (.int d1), some (.int s7), some (.int rest9)]) rfl ?_
   obtain ⟨s10, hs10, hm⟩ := Mi.bnd hm
   refine s_join (R := fun σ' H' => σ' = [some v0, some (.int d1), some (.int s7), some (.int s10)] ∧ Chg ([] : List Addr) H0 H' ∧ yScr.rep K H' [] v0 d0) (fun nx kx => ?_) (fun σ' H' hj => ?_)
   ·
     refine s_if (ans_t (val_ge (val_var rfl) (val_pow (n := 18) val_c val_c rfl (by decide) (by decide)))) (fun hb => ?_) (fun hb => ?_)
     ·
       replace hs10 := Mi.ifT hb hs10
       obtain ⟨rest11, hrest11, hs10⟩ := Mi.letE hs10
       refine q_setE (val_var rfl) (congrArg V.int hrest11) (σ' := [some v0, some (.int d1), some (.int s7), some (.int rest11)]) rfl ?_
       refine w_nextJ ?_
       obtain rfl := Option.some.inj hs10
       exact kx _ _ ⟨rfl, c0, r0⟩
     ·
       replace hs10 := Mi.ifF hb hs10
       refine w_nextJ ?_
       obtain rfl := Option.some.inj hs10
       exact kx _ _ ⟨rfl, c0, r0⟩
   obtain ⟨rfl, c0, r0⟩ := hj
   refine q_ret ?_
   refine w_lst ?_
   refine w_args (va_cons (val_var rfl) (va_cons (val_modc (val_int (val_add (val_add (val_var rfl) (val_mulL val_c (val_var rfl) ⟨by decide, by decide⟩)) val_c)) val_c (by decide)) (va_cons val_c va_nil))) ?_
   refine e_lst (K := K) (τ := yInt) (by exact Nat.le_of_ble_eq_true rfl) (.cons yInt_i (.cons yInt_i (.cons yInt_i .nil))) fun p12 H16 np15 c13 r14 => ?_
   have n17 : ∀ a ∈ [p12], H0 a = none := one_fresh (c0.dom p12 np15)
   have r0 := Ty.fz r0 c13
   have c0 := c0.trans c13.none
   obtain rfl := Option.some.inj hm
   exact hQ _ _ _ c0 r14 n17 
abbrev s_l_pick : Stmt := topS 36
theorem sc_l_pick : FnScope ["_law_hand_here", "_law_size", "_law_digit", "_law_mixed"] ["_law_hand_here", "_law_size"] (defScope s_l_pick) := ⟨rfl, rfl, rfl, by decide +kernel, rfl, by decide +kernel, by decide +kernel⟩
def sp_l_pick (K : PySem.W.Frag) : Sp := fun vs H Q _ => ∃ (v0 : V) (F0 : List Addr) (d0 : (List Int)) (d1 : Int) (r : (Int × (List Int))), vs = [v0, (.int d1)] ∧ (yLst yInt).rep K H F0 v0 d0 ∧ Mi.m_l_pick d0 d1 = some r ∧ ∀ H', Chg (F0) H H' → (yLst yInt).rep K H' F0 v0 r.2 → Q (.int r.1) H'
theorem ok_l_pick (B : Bi mg) (CN : Cs K mg) (D : Dfn K mg "_law_pick" s_l_pick)  : Cal P w K mg "_law_pick" ["_law_hand_here", "_law_size"] 1 (sp_l_pick K) := by
 obtain ⟨f, fd, F, g⟩ := D.ex
 refine ⟨f, fd, g, F.kp, bindsF F (fun _ _ _ _ _ _ us hl => match us, hl with | [_, _], _ => rfl), fun base => F.ok sc_l_pick (fun vs H Q E h => ?_) (fun cdv A outer s H0 vs Q E hr h => ?_)⟩
 · obtain ⟨v0, F0, d0, d1, r, rfl, r0, hm, hQ⟩ := h; rfl
 ·
   obtain ⟨v0, F0, d0, d1, r, rfl, r0, hm, hQ⟩ := h
   refine ⟨_, pss_cons (ps_if (pt_cmpR op_lt (pv 1) pe_int (nomark _)) (pss_cons (ps_ret pe_int) pss_nil) (pss_nil))
     (pss_cons (ps_if (pt_cmpR op_gt (pe_ix (ix_l (K := K)) (pv 0) pe_int (fun _ _ => rfl)) pe_int (nomark _)) (pss_cons (ps_set (i := 2) sc_l_pick.nd rfl (.inl rfl) (pe_op op_mod (pe_callTy cl_int (by rfl) B.int (by decide +kernel) (pa_cons (pe_ix (ix_l (K := K)) (pv 0) pe_int (fun _ _ => rfl)) pa_nil)) (pv 1)))
     (pss_cons (ps_asg (pe_op op_fdivW (pe_ix (ix_l (K := K)) (pv 0) pe_int (fun _ _ => rfl)) (pv 1)) (pg_sub (pv 0) pe_int set_list))
     (pss_cons (ps_ret (pv 2)) pss_nil))) (pss_nil))
     (pss_cons (ps_asg (pe_op op_add (pe_ix (ix_l (K := K)) (pv 0) pe_int (fun _ _ => rfl)) pe_int) (pg_sub (pv 0) pe_int set_list))
     (pss_cons (ps_set (i := 3) sc_l_pick.nd rfl (.inl rfl) (pe_op op_mod (pe_callTy cl_int (by rfl) B.int (by decide +kernel) (pa_cons (pe_op op_add (pe_op op_add (pe_ix (ix_l (K := K)) (pv 0) pe_int (fun _ _ => rfl)) (pe_op op_mul pe_int (pe_ix (ix_l (K := K)) (pv 0) pe_int (fun _ _ => rfl)))) pe_int) pa_nil)) pe_int))
     (pss_cons (ps_set (i := 3) sc_l_pick.nd rfl (.inl rfl) (pe_op op_mod (pe_callTy cl_int (by rfl) B.int (by decide +kernel) (pa_cons (pe_op op_mul (pv 3) (pe_op op_add (pv 3) pe_int)) pa_nil)) pe_int))
     (pss_cons (ps_set (i := 3) sc_l_pick.nd rfl (.inl rfl) (pe_op op_mod (pe_callTy cl_int (by rfl) B.int (by decide +kernel) (pa_cons (pe_op op_add (pe_op op_mul (pv 3) (pe_op op_add (pv 3) pe_int)) (pe_op op_mul pe_int (pe_ix (ix_l (K := K)) (pv 0) pe_int (fun _ _ => rfl)))) pa_nil)) pe_int))
     (pss_cons (ps_ret (pe_op op_mod (pe_callTy cl_int (by rfl) B.int (by decide +kernel) (pa_cons (pe_op op_fdiv (pv 3) pe_int) pa_nil)) (pv 1))) pss_nil)))))), ?_⟩
   have c0 : Chg (F0) H0 H0 := Chg.refl H0
   unfold Mi.m_l_pick at hm
   refine q_if (ans_t (val_lt (val_var rfl) val_c)) (fun hb => ?_) (fun hb => ?_)
   ·
     replace hm := Mi.ifT hb hm
     refine q_ret ?_
     refine c_val val_c ?_
     obtain rfl := Option.some.inj hm
     exact hQ _ c0 r0
   replace hm := Mi.ifF hb hm
   refine w_fall ?_
   obtain ⟨x3, hx3, hm⟩ := Mi.bnd hm
   refine q_if (ans_t (val_gt (itm_LI r0 hx3 (val_var rfl) val_c) val_c)) (fun hb => ?_) (fun hb => ?_)
   ·
     replace hm := Mi.ifT hb hm
     obtain ⟨x4, hx4, hm⟩ := Mi.bnd hm
     obtain ⟨x5, hx5, hm⟩ := Mi.bnd hm
     obtain ⟨digit6, hdigit6, hm⟩ := Mi.letE hm
     refine q_setE (val_mod (val_int (itm_LI r0 hx4 (val_var rfl) val_c)) (val_var rfl) hx5) (congrArg V.int hdigit6) (σ' := [some v0, some (.int d1), some (.int digit6), none]) rfl ?_
     refine q_asg ?_
     obtain ⟨x7, hx7, hm⟩ := Mi.bnd hm
     obtain ⟨x8, hx8, hm⟩ := Mi.bnd hm
     refine c_val (val_fdiv (itm_LI r0 hx7 (val_var rfl) val_c) (val_var rfl) hx8) ?_
     refine w_gsub ?_
     refine c_val (val_var rfl) ?_
     refine c_val val_c ?_
     obtain ⟨x9, hx9, hm⟩ := Mi.bnd hm
     refine m_set r0 yInt_i hx9 fun H11 c10 r0 => ?_
     have c0 := c0.join c10 (fun a h => .inl (h))
     refine q_ret ?_
     refine c_val (val_var rfl) ?_
     obtain rfl := Option.some.inj hm
     exact hQ _ c0 r0
   replace hm := Mi.ifF hb hm
   refine w_fall ?_
   refine q_asg ?_
   obtain ⟨x12, hx12, hm⟩ := Mi.bnd hm
   refine c_val (val_add (itm_LI r0 hx12 (val_var rfl) val_c) val_c) ?_
   refine w_gsub ?_
   refine c_val (val_var rfl) ?_
   refine c_val val_c ?_
   obtain ⟨x13, hx13, hm⟩ := Mi.bnd hm
   refine m_set r0 yInt_i hx13 fun H15 c14 r0 => ?_
   have c0 := c0.join c14 (fun a h => .inl (h))
   obtain ⟨x16, hx16, hm⟩ := Mi.bnd hm
   obtain ⟨x17, hx17, hm⟩ := Mi.bnd hm
   obtain ⟨mixed18, hmixed18, hm⟩ := Mi.letE hm
   refine q_setE (val_modc (val_int (val_add (val_add (itm_LI r0 hx16 (val_var rfl) val_c) (val_mulL val_c (itm_LI r0 hx17 (val_var rfl) val_c) ⟨by decide, by decide⟩)) val_c)) val_c (by decide)) (congrArg V.int hmixed18) (σ' := [some v0, some (.int d1), none, some (.int mixed18)]) rfl ?_
   obtain ⟨x19, hx19, hm⟩ := Mi.bnd hm
   obtain ⟨mixed20, hmixed20, hm⟩ := Mi.letE hm
   refine q_setE (val_modc (val_int (val_mul (val_var rfl) (val_add (val_var rfl) val_c) hx19)) val_c (by decide)) (congrArg V.int hmixed20) (σ' := [some v0, some (.int d1), none, some (.int mixed20)]) rfl ?_
   obtain ⟨x21, hx21, hm⟩ := Mi.bnd hm
   obtain ⟨x22, hx22, hm⟩ := Mi.bnd hm
   obtain ⟨mixed23, hmixed23, hm⟩ := Mi.letE hm
   refine q_setE (val_modc (val_int (val_add (val_mul (val_var rfl) (val_add (val_var rfl) val_c) hx21) (val_mulL val_c (itm_LI r0 hx22 (val_var rfl) val_c) ⟨by decide, by decide⟩))) val_c (by decide)) (congrArg V.int hmixed23) (σ' := [some v0, some (.int d1), none, some (.int mixed23)]) rfl ?_
   refine q_ret ?_
   obtain ⟨x24, hx24, hm⟩ := Mi.bnd hm
   refine c_val (val_mod (val_int (val_divc (val_var rfl) val_c ⟨by decide, by decide⟩)) (val_var rfl) hx24) ?_
   obtain rfl := Option.some.inj hm
   exact hQ _ c0 r0
abbrev s_l_int : Stmt := topS 37
theorem sc_l_int : FnScope ["_law_x"] ["_law_x"] (defScope s_l_int) := ⟨rfl, rfl, rfl, by decide +kernel, rfl, by decide +kernel, by decide +kernel⟩
def sp_l_int (K : PySem.W.Frag) : Sp := fun vs H Q _ => (∃ (d0 : Int) (r : Bool), vs = [(.int d0)] ∧ Mi.m_l_int_0 d0 = some r ∧ ∀ H', Chg ([]) H H' → Q (.bl r) H') ∨ (∃ (v0 : V) (d0 : (Option Int)) (r : Bool), vs = [v0] ∧ (yOpt yInt).rep K H [] v0 d0 ∧ Mi.m_l_int_1 d0 = some r ∧ ∀ H', Chg ([]) H H' → Q (.bl r) H')
theorem ok_l_int (B : Bi mg) (CN : Cs K mg) (D : Dfn K mg "_law_int" s_l_int)  : Cal P w K mg "_law_int" ["_law_x"] 1 (sp_l_int K) := by
 obtain ⟨f, fd, F, g⟩ := D.ex
 refine ⟨f, fd, g, F.kp, bindsF F (fun _ _ _ _ _ _ us hl => match us, hl with | [_], _ => rfl), fun base => F.ok sc_l_int (fun vs H Q E h => ?_) (fun cdv A outer s H0 vs Q E hr h => ?_)⟩
 · rcases h with ⟨d0, r, rfl, hm, hQ⟩ | ⟨v0, d0, r, rfl, r0, hm, hQ⟩
   all_goals rfl
 · rcases h with h | h
   ·
     obtain ⟨d0, r, rfl, hm, hQ⟩ := h
     refine ⟨_, pss_cons (ps_ret (pe_and (pe_callB (cl_isi (K := K)) (by rfl) B.isinstance (by decide +kernel) (pa_cons (pv 0) (pa_cons (pe_bltn (v := .ty "int") (by rfl) B.int (by decide +kernel) rfl) pa_nil))) (pe_one (pe_not (pe_callB (cl_isi (K := K)) (by rfl) B.isinstance (by decide +kernel) (pa_cons (pv 0) (pa_cons (pe_bltn (v := .ty "bool") (by rfl) B.bool (by decide +kernel) rfl) pa_nil))))))) pss_nil, ?_⟩
     have c0 : Chg ([] : List Addr) H0 H0 := Chg.refl H0
     unfold Mi.m_l_int_0 at hm
     refine q_ret ?_
     refine c_val (val_andV (val_isi (val_var rfl) ty_int (n := "int") (m := "int") (b := true) (by decide +kernel)) (fun _ => (val_notV (val_isi (val_var rfl) ty_int (n := "int") (m := "bool") (b := false) (by decide +kernel))))) ?_
     obtain rfl := Option.some.inj hm
     exact hQ _ c0 
   ·
     obtain ⟨v0, d0, r, rfl, r0, hm, hQ⟩ := h
     refine ⟨_, pss_cons (ps_ret (pe_and (pe_callB (cl_isi (K := K)) (by rfl) B.isinstance (by decide +kernel) (pa_cons (pv 0) (pa_cons (pe_bltn (v := .ty "int") (by rfl) B.int (by decide +kernel) rfl) pa_nil))) (pe_one (pe_not (pe_callB (cl_isi (K := K)) (by rfl) B.isinstance (by decide +kernel) (pa_cons (pv 0) (pa_cons (pe_bltn (v := .ty "bool") (by rfl) B.bool (by decide +kernel) rfl) pa_nil))))))) pss_nil, ?_⟩
     have c0 : Chg ([] : List Addr) H0 H0 := Chg.refl H0
     unfold Mi.m_l_int_1 at hm
     refine q_ret ?_
     refine c_val (val_andV (val_isiO (n := "int") (m := "int") (b := true) tyr_int r0 (val_var rfl) (by decide +kernel) (by decide +kernel)) (fun _ => (val_notV (val_isiO (n := "int") (m := "bool") (b := false) tyr_int r0 (val_var rfl) (by decide +kernel) (by decide +kernel))))) ?_
     obtain rfl := Option.some.inj hm
     exact hQ _ c0 
abbrev s_l_places : Stmt := topS 38
abbrev N_l_places : List Str := ["_law_code", "_law_kind", "_law_bits", "_law_place"]
theorem sc_l_places : FnScope ["_law_code", "_law_kind", "_law_bits", "_law_place"] ["_law_code"] (defScope s_l_places) := ⟨rfl, rfl, rfl, by decide +kernel, rfl, by decide +kernel, by decide +kernel⟩
def sp_l_places (K : PySem.W.Frag) : Sp := fun vs H Q _ => ∃ (d0 : Int) (r : (List Int)), vs = [(.int d0)] ∧ Mi.m_l_places d0 = some r ∧ ∀ v H', Chg ([]) H H' → (yFl yInt).rep K H' [] v r → Q v H'
theorem ok_l_places (B : Bi mg) (CN : Cs K mg) (D : Dfn K mg "_law_places" s_l_places)  : Cal P w K mg "_law_places" ["_law_code"] 1 (sp_l_places K) := by
 obtain ⟨f, fd, F, g⟩ := D.ex
 refine ⟨f, fd, g, F.kp, bindsF F (fun _ _ _ _ _ _ us hl => match us, hl with | [_], _ => rfl), fun base => F.ok sc_l_places (fun vs H Q E h => ?_) (fun cdv A outer s H0 vs Q E hr h => ?_)⟩
 · obtain ⟨d0, r, rfl, hm, hQ⟩ := h; rfl
 ·
   obtain ⟨d0, r, rfl, hm, hQ⟩ := h
   refine ⟨_, pss_cons (ps_set (i := 1) sc_l_places.nd rfl (.inl rfl) (pe_op op_mod (pe_callTy cl_int (by rfl) B.int (by decide +kernel) (pa_cons (pv 0) pa_nil)) pe_int))
     (pss_cons (ps_set (i := 2) sc_l_places.nd rfl (.inr rfl) (pe_op op_fdiv (pv 0) pe_int))
     (pss_cons (ps_if (pt_cmpR op_eq (pv 1) pe_int (nomark _)) (pss_cons (ps_set (i := 2) sc_l_places.nd rfl (.inr rfl) pe_int)
     (pss_nil)) (pss_nil))
     (pss_cons (ps_if (pt_cmpR op_eq (pv 1) pe_int (nomark _)) (pss_cons (ps_set (i := 2) sc_l_places.nd rfl (.inr rfl) pe_int)
     (pss_nil)) (pss_nil))
     (pss_cons (ps_if (pt_cmpR op_eq (pv 1) pe_int (nomark _)) (pss_cons (ps_set (i := 2) sc_l_places.nd rfl (.inr rfl) (pe_op op_shl pe_int (pe_op op_mod (pe_callTy cl_int (by rfl) B.int (by decide +kernel) (pa_cons (pv 2) pa_nil)) pe_int)))
     (pss_nil)) (pss_nil))
     (pss_cons (ps_ret (pe_frz (pe_lc (own := [("_law_place", 3)]) rfl sc_l_places.nd (pi_range1 (by rfl) B.range (pa_cons pe_int pa_nil)) (blkOk_by (own := [("_law_place", 3)]) (N := N_l_places) (sc := defScope s_l_places) (by decide +kernel)) (fun _ _ _ _ _ => (pg_name (i := 3) sc_l_places.nd rfl (.inl rfl))) (fun _ _ _ _ _ => (pts_one (pt_cmpR op_eq (pe_op op_mod (pe_callTy cl_int (by rfl) B.int (by decide +kernel) (pa_cons (pe_op op_shr (pv 2) (pv 3)) pa_nil)) pe_int) pe_int (nomark _)))) (fun _ _ _ _ _ => (pv 3))))) pss_nil))))), ?_⟩
   have c0 : Chg ([] : List Addr) H0 H0 := Chg.refl H0
   unfold Mi.m_l_places at hm
   obtain ⟨kind2, hkind2, hm⟩ := Mi.letE hm
   refine q_setE (val_modc (val_int (val_var rfl)) val_c (by decide)) (congrArg V.int hkind2) (σ' := [some (.int d0), some (.int kind2), none, none]) rfl ?_
   obtain ⟨bits3, hbits3, hm⟩ := Mi.letE hm
   refine q_setE (val_divc (val_var rfl) val_c ⟨by decide, by decide⟩) (congrArg V.int hbits3) (σ' := [some (.int d0), some (.int kind2), some (.int bits3), none]) rfl ?_
   obtain ⟨s4, hs4, hm⟩ := Mi.bnd hm
   refine s_join (R := fun σ' H' => σ' = [some (.int d0), some (.int kind2), some (.int s4), none] ∧ Chg ([] : List Addr) H0 H') (fun nx kx => ?_) (fun σ' H' hj => ?_)
   ·
     refine s_if (ans_t (val_eqI (val_var rfl) val_c)) (fun hb => ?_) (fun hb => ?_)
     ·
       replace hs4 := Mi.ifT hb hs4
       obtain ⟨bits5, hbits5, hs4⟩ := Mi.letE hs4
       refine q_setE val_c (congrArg V.int hbits5) (σ' := [some (.int d0), some (.int kind2), some (.int bits5), none]) rfl ?_
       refine w_nextJ ?_
       obtain rfl := Option.some.inj hs4
       exact kx _ _ ⟨rfl, c0⟩
     ·
       replace hs4 := Mi.ifF hb hs4
       refine w_nextJ ?_
       obtain rfl := Option.some.inj hs4
       exact kx _ _ ⟨rfl, c0⟩
   obtain ⟨rfl, c0⟩ := hj
   obtain ⟨s6, hs6, hm⟩ := Mi.bnd hm
   refine s_join (R := fun σ' H' => σ' = [some (.int d0), some (.int kind2), some (.int s6), none] ∧ Chg ([] : List Addr) H0 H') (fun nx kx => ?_) (fun σ' H' hj => ?_)
   ·
     refine s_if (ans_t (val_eqI (val_var rfl) val_c)) (fun hb => ?_) (fun hb => ?_)
     ·
       replace hs6 := Mi.ifT hb hs6
       obtain ⟨bits7, hbits7, hs6⟩ := Mi.letE hs6
       refine q_setE val_c (congrArg V.int hbits7) (σ' := [some (.int d0), some (.int kind2), some (.int bits7), none]) rfl ?_
       refine w_nextJ ?_
       obtain rfl := Option.some.inj hs6
       exact kx _ _ ⟨rfl, c0⟩
     ·
       replace hs6 := Mi.ifF hb hs6
       refine w_nextJ ?_
       obtain rfl := Option.some.inj hs6
       exact kx _ _ ⟨rfl, c0⟩
   obtain ⟨rfl, c0⟩ := hj
   obtain ⟨s8, hs8, hm⟩ := Mi.bnd hm
   refine s_join (R := fun σ' H' => σ' = [some (.int d0), some (.int kind2), some (.int s8), none] ∧ Chg ([] : List Addr) H0 H') (fun nx kx => ?_) (fun σ' H' hj => ?_)
   ·
     refine s_if (ans_t (val_eqI (val_var rfl) val_c)) (fun hb => ?_) (fun hb => ?_)
     ·
       replace hs8 := Mi.ifT hb hs8
       obtain ⟨x9, hx9, hs8⟩ := Mi.bnd hs8
       obtain ⟨bits10, hbits10, hs8⟩ := Mi.letE hs8
       refine q_setE (val_shlO val_c (val_modc (val_int (val_var rfl)) val_c (by decide)) hx9) (congrArg V.int hbits10) (σ' := [some (.int d0), some (.int kind2), some (.int bits10), none]) rfl ?_
       refine w_nextJ ?_
       obtain rfl := Option.some.inj hs8
       exact kx _ _ ⟨rfl, c0⟩
     ·
       replace hs8 := Mi.ifF hb hs8
       refine w_nextJ ?_
       obtain rfl := Option.some.inj hs8
       exact kx _ _ ⟨rfl, c0⟩
   obtain ⟨rfl, c0⟩ := hj
   refine q_ret ?_
   refine w_frz ?_
   refine w_lc ?_
   refine w_iRng1 ?_
   refine w_args (va_cons val_c va_nil) ?_
   obtain ⟨g11, hg11, hm⟩ := Mi.bnd hm
   obtain ⟨e12, he12, hm⟩ := Mi.bnd hm
   refine kc_rng1 (K := K) (τ := yInt) hg11 (fun D14 i H' => ∃ (s13 : (List Int)), Chg ([] : List Addr) H0 H' ∧ (yLst yInt).rep K H' [D14] (.ref D14) s13 ∧ (∀ a ∈ [D14], H0 a = none) ∧ Mi.forN (Mi.m_l_places_b1 s8) s13 (List.drop i g11) = some e12) (fun D14 H20 np19 c18 r15 => ⟨([] : (List Int)), c0.trans c18.none, r15, one_fresh (c0.dom D14 np19), he12⟩) (fun D14 i23 x22 H24 hx21 hp => ?_) (fun D14 H' np19 hp => ?_)
   ·
     obtain ⟨s13, c0, r15, n17, hle12⟩ := hp
     obtain ⟨_, hbe12, hle12⟩ := Mi.forN_go hle12 hx21
     unfold Mi.m_l_places_b1 at hbe12
     refine g_name (σ' := [some (.int d0), some (.int kind2), some (.int s8), some (.int x22)]) rfl ?_
     refine ⟨rfl, ?_⟩
     obtain ⟨x31, hx31, hbe12⟩ := Mi.bnd hbe12
     refine c_ans (ans_t (val_eqI (val_modc (val_int (val_shrO (val_var rfl) (val_var rfl) hx31)) val_c (by decide)) val_c)) ?_
     refine c_if (fun hb => ?_) (fun hb => ?_)
     ·
       replace hbe12 := Mi.ifT hb hbe12
       refine c_val (val_var rfl) ?_
       obtain ⟨x32, hx32, hbe12⟩ := Mi.bnd hbe12
       refine e_app r15 yInt_i hx32 fun H34 c33 r15 => ?_
       have c0 := c0.join c33 (fun a h => .inr (n17 a h))
       obtain rfl := Option.some.inj hbe12
       exact ⟨x32, c0, r15, n17, hle12⟩
     ·
       replace hbe12 := Mi.ifF hb hbe12
       obtain rfl := Option.some.inj hbe12
       exact ⟨s13, c0, r15, n17, hle12⟩
   obtain ⟨s13, c0, r15, n17, hle12⟩ := hp
   obtain rfl := Mi.forN_end hle12
   refine e_frz r15 fun H36 c35 r37 => ?_
   have c0 := c0.join c35 (fun a h => .inr (n17 a h))
   obtain rfl := Option.some.inj hm
   exact hQ _ _ c0 r37 
abbrev s_l_turned : Stmt := topS 39
theorem sc_l_turned : FnScope ["_law_code", "_law_zone", "_law_spot", "_law_handed_here"] ["_law_code", "_law_zone"] (defScope s_l_turned) := ⟨rfl, rfl, rfl, by decide +kernel, rfl, by decide +kernel, by decide +kernel⟩
def sp_l_turned (K : PySem.W.Frag) : Sp := fun vs H Q _ => ∃ (d0 : Int) (v1 : V) (d1 : (List Int)) (r : (List Int)), vs = [(.int d0), v1] ∧ (yFl yInt).rep K H [] v1 d1 ∧ Mi.m_l_turned d0 d1 = some r ∧ ∀ v H', Chg ([]) H H' → (yFl yInt).rep K H' [] v r → Q v H'
theorem ok_l_turned (B : Bi mg) (CN : Cs K mg) (D : Dfn K mg "_law_turned" s_l_turned)  : Cal P w K mg "_law_turned" ["_law_code", "_law_zone"] 1 (sp_l_turned K) := by
 obtain ⟨f, fd, F, g⟩ := D.ex
 refine ⟨f, fd, g, F.kp, bindsF F (fun _ _ _ _ _ _ us hl => match us, hl with | [_, _], _ => rfl), fun base => F.ok sc_l_turned (fun vs H Q E h => ?_) (fun cdv A outer s H0 vs Q E hr h => ?_)⟩
 · obtain ⟨d0, v1, d1, r, rfl, r1, hm, hQ⟩ := h; rfl
 ·
   obtain ⟨d0, v1, d1, r, rfl, r1, hm, hQ⟩ := h
   refine ⟨_, pss_cons (ps_set (i := 2) sc_l_turned.nd rfl (.inl rfl) (pe_op op_mod (pe_callTy cl_int (by rfl) B.int (by decide +kernel) (pa_cons (pe_op op_fdiv (pv 0) pe_int) pa_nil)) (pe_callB (cl_max2 rfl) (by rfl) B.max (by decide +kernel) (pa_cons pe_int (pa_cons (pe_callB (cl_len (K := K)) (by rfl) B.len PySem.boot_len (pa_cons (pv 1) pa_nil)) pa_nil)))))
     (pss_cons (ps_set (i := 3) sc_l_turned.nd rfl (.inl rfl) (pe_op op_cat (pe_slice (sl_l (K := K)) (pv 1) (po_some (pv 2)) po_none) (pe_slice (sl_l (K := K)) (pv 1) po_none (po_some (pv 2)))))
     (pss_cons (ps_if (pt_cmpR op_eq (pe_op op_mod (pe_callTy cl_int (by rfl) B.int (by decide +kernel) (pa_cons (pv 0) pa_nil)) pe_int) pe_int (nomark _)) (pss_cons (ps_set (i := 3) sc_l_turned.nd rfl (.inl rfl) (pe_listRevK (K := K) rfl (by rfl) B.list (by rfl) B.reversed (pv 3)))
     (pss_nil)) (pss_nil))
     (pss_cons (ps_ret (pe_frz (pv 3))) pss_nil))), ?_⟩
   have c0 : Chg ([] : List Addr) H0 H0 := Chg.refl H0
   unfold Mi.m_l_turned at hm
   obtain ⟨x3, hx3, hm⟩ := Mi.bnd hm
   obtain ⟨spot4, hspot4, hm⟩ := Mi.letE hm
   refine q_setE (val_mod (val_int (val_divc (val_var rfl) val_c ⟨by decide, by decide⟩)) (val_max2 val_c (val_lenF r1 (val_var rfl))) hx3) (congrArg V.int hspot4) (σ' := [some (.int d0), some v1, some (.int spot4), none]) rfl ?_
   refine q_asg ?_
   refine w_op ?_
   refine w_sl ?_
   refine c_val (val_var rfl) ?_
   refine w_pos ?_
   refine c_val (val_var rfl) ?_
   refine ⟨_, rfl, ?_⟩
   refine w_pon ?_
   refine w_cutF r1 fun p5 H9 np8 c6 r7 => ?_
   have n10 : ∀ a ∈ [p5], H0 a = none := one_fresh (c0.dom p5 np8)
   have r1 := Ty.fz r1 c6
   have c0 := c0.trans c6.none
   refine w_sl ?_
   refine c_val (val_var rfl) ?_
   refine w_pon ?_
   refine w_pos ?_
   refine c_val (val_var rfl) ?_
   refine ⟨_, rfl, ?_⟩
   refine w_cutF r1 fun p11 H15 np14 c12 r13 => ?_
   have d16 : Dj [p5] [p11] := Ty.nin r7 np14
   have n17 : ∀ a ∈ [p11], H0 a = none := one_fresh (c0.dom p11 np14)
   have r1 := Ty.fz r1 c12
   have r7 := Ty.ex r7 c12
   have c0 := c0.trans c12.none
   obtain ⟨x18, hx18, hm⟩ := Mi.bnd hm
   refine w_cat r7 r13 hx18 fun p19 H23 np22 c20 r21 => ?_
   have d24 : Dj [p5] [p19] := Ty.nin r7 np22
   have d25 : Dj [p11] [p19] := Ty.nin r13 np22
   have n26 : ∀ a ∈ [p19], H0 a = none := one_fresh (c0.dom p19 np22)
   have r1 := Ty.fz r1 c20
   have r7 := Ty.ex r7 c20
   have r13 := Ty.ex r13 c20
   have c0 := c0.trans c20.none
   refine g_name (σ' := [some (.int d0), some v1, some (.int spot4), some (.ref p19)]) rfl ?_
   obtain ⟨s27, hs27, hm⟩ := Mi.bnd hm
   refine s_join (R := fun σ' H' => ∃ (v28 : V) (F30 : List Addr), σ' = [some (.int d0), some v1, some (.int spot4), some v28] ∧ Chg ([] : List Addr) H0 H' ∧ (yFl yInt).rep K H' [] v1 d1 ∧ (yLst yInt).rep K H' F30 v28 s27 ∧ (∀ a ∈ F30, H0 a = none)) (fun nx kx => ?_) (fun σ' H' hj => ?_)
   ·
     refine s_if (ans_t (val_eqI (val_modc (val_int (val_var rfl)) val_c (by decide)) val_c)) (fun hb => ?_) (fun hb => ?_)
     ·
       replace hs27 := Mi.ifT hb hs27
       refine q_asg ?_
       refine w_lrev ?_
       refine c_val (val_var rfl) ?_
       refine x_lrev r21 fun p32 H36 np35 c33 r34 => ?_
       have d37 : Dj [p19] [p32] := Ty.nin r21 np35
       have n38 : ∀ a ∈ [p32], H0 a = none := one_fresh (c0.dom p32 np35)
       have r1 := Ty.fz r1 c33
       have r21 := Ty.ex r21 c33
       have c0 := c0.trans c33.none
       refine g_name (σ' := [some (.int d0), some v1, some (.int spot4), some (.ref p32)]) rfl ?_
       refine w_nextJ ?_
       obtain rfl := Option.some.inj hs27
       exact kx _ _ ⟨(.ref p32), [p32], rfl, c0, r1, r34, n38⟩
     ·
       replace hs27 := Mi.ifF hb hs27
       refine w_nextJ ?_
       obtain rfl := Option.some.inj hs27
       exact kx _ _ ⟨(.ref p19), [p19], rfl, c0, r1, r21, n26⟩
   obtain ⟨v28, F30, rfl, c0, r1, r29, n31⟩ := hj
   refine q_ret ?_
   refine w_frz ?_
   refine c_val (val_var rfl) ?_
   refine e_frz r29 fun H40 c39 r41 => ?_
   have r1 := Ty.fz r1 c39
   have c0 := c0.join c39 (fun a h => .inr (n31 a h))
   obtain rfl := Option.some.inj hm
   exact hQ _ _ c0 r41 
abbrev s_l_flag : Stmt := topS 40
theorem sc_l_flag : FnScope ["_law_told", "_law_due"] ["_law_told", "_law_due"] (defScope s_l_flag) := ⟨rfl, rfl, rfl, by decide +kernel, rfl, by decide +kernel, by decide +kernel⟩
def sp_l_flag (K : PySem.W.Frag) : Sp := fun vs H Q _ => ∃ (d0 : Bool) (d1 : Bool) (r : Bool), vs = [(.bl d0), (.bl d1)] ∧ Mi.m_l_flag d0 d1 = some r ∧ ∀ H', Chg ([]) H H' → Q (.bl r) H'
theorem ok_l_flag (B : Bi mg) (CN : Cs K mg) (D : Dfn K mg "_law_flag" s_l_flag)  : Cal P w K mg "_law_flag" ["_law_told", "_law_due"] 1 (sp_l_flag K) := by
 obtain ⟨f, fd, F, g⟩ := D.ex
 refine ⟨f, fd, g, F.kp, bindsF F (fun _ _ _ _ _ _ us hl => match us, hl with | [_, _], _ => rfl), fun base => F.ok sc_l_flag (fun vs H Q E h => ?_) (fun cdv A outer s H0 vs Q E hr h => ?_)⟩
 · obtain ⟨d0, d1, r, rfl, hm, hQ⟩ := h; rfl
 ·
   obtain ⟨d0, d1, r, rfl, hm, hQ⟩ := h
   refine ⟨_, pss_cons (ps_if (pt_val (pv 1)) (pss_cons (ps_ret (pe_cmpR op_isB (pv 0) pe_bl (nomark _))) pss_nil) (pss_nil))
     (pss_cons (ps_ret (pe_cmpR op_isB (pv 0) pe_bl (nomark _))) pss_nil), ?_⟩
   have c0 : Chg ([] : List Addr) H0 H0 := Chg.refl H0
   unfold Mi.m_l_flag at hm
   refine q_if (ans_B (val_var rfl)) (fun hb => ?_) (fun hb => ?_)
   ·
     replace hm := Mi.ifT hb hm
     refine q_ret ?_
     refine c_val (val_isB (val_var rfl) val_c) ?_
     obtain rfl := Option.some.inj hm
     exact hQ _ c0 
   replace hm := Mi.ifF hb hm
   refine w_fall ?_
   refine q_ret ?_
   refine c_val (val_isB (val_var rfl) val_c) ?_
   obtain rfl := Option.some.inj hm
   exact hQ _ c0 
abbrev s_l_spoilt_zone : Stmt := topS 41
theorem sc_l_spoilt_zone : FnScope ["_law_hand_here", "_law_zone", "_law_kind", "_law_thing"] ["_law_hand_here", "_law_zone"] (defScope s_l_spoilt_zone) := ⟨rfl, rfl, rfl, by decide +kernel, rfl, by decide +kernel, by decide +kernel⟩
def sp_l_spoilt_zone (K : PySem.W.Frag) : Sp := fun vs H Q _ => ∃ (v0 : V) (F0 : List Addr) (d0 : (List Int)) (v1 : V) (F1 : List Addr) (d1 : (List Int)) (r : ((List Int) × (List Int))), vs = [v0, v1] ∧ (yLst yInt).rep K H F0 v0 d0 ∧ (yLst yInt).rep K H F1 v1 d1 ∧ Dj F0 F1 ∧ Mi.m_l_spoilt_zone d0 d1 = some r ∧ ∀ v H', Chg (F0 ++ F1) H H' → (yFl yInt).rep K H' [] v r.1 → (yLst yInt).rep K H' F0 v0 r.2 → Q v H'
theorem ok_l_spoilt_zone (B : Bi mg) (CN : Cs K mg) (D : Dfn K mg "_law_spoilt_zone" s_l_spoilt_zone) (C_l_pick : Cal P w K mg "_law_pick" ["_law_hand_here", "_law_size"] 1 (sp_l_pick K)) : Cal P w K mg "_law_spoilt_zone" ["_law_hand_here", "_law_zone"] 2 (sp_l_spoilt_zone K) := by
 obtain ⟨f, fd, F, g⟩ := D.ex
 refine ⟨f, fd, g, F.kp, bindsF F (fun _ _ _ _ _ _ us hl => match us, hl with | [_, _], _ => rfl), fun base => F.ok sc_l_spoilt_zone (fun vs H Q E h => ?_) (fun cdv A outer s H0 vs Q E hr h => ?_)⟩
 · obtain ⟨v0, F0, d0, v1, F1, d1, r, rfl, r0, r1, dd0_1, hm, hQ⟩ := h; rfl
 ·
   obtain ⟨v0, F0, d0, v1, F1, d1, r, rfl, r0, r1, dd0_1, hm, hQ⟩ := h
   refine ⟨_, pss_cons (ps_set (i := 2) sc_l_spoilt_zone.nd rfl (.inl rfl) (pe_cc C_l_pick hr (pa_cons (pv 0) (pa_cons pe_int pa_nil))))
     (pss_cons (ps_set (i := 3) sc_l_spoilt_zone.nd rfl (.inl rfl) (pe_ix (ix_l (K := K)) (pe_lst (pa_cons (pe_un un_neg pe_int) (pa_cons pe_int (pa_cons (pe_op op_pow pe_int pe_int) (pa_cons pe_int pa_nil))))) (pv 2) (fun _ _ => rfl)))
     (pss_cons (ps_if (PW.pt (pw_and (pt_cmpR op_eq (pv 2) pe_int (nomark _)) (pw_and1 (pt_cmpR op_eq (pe_callB (cl_len (K := K)) (by rfl) B.len PySem.boot_len (pa_cons (pv 1) pa_nil)) pe_int (nomark _))))) (pss_cons (ps_expr (pe_bm PySem.F.plainAttrs_list PySem.F.slot_list_append PySem.F.type_list_append mt_append (pv 1) (pa_cons (pe_cc C_l_pick hr (pa_cons (pv 0) (pa_cons pe_int pa_nil))) pa_nil)))
     (pss_nil)) (pss_nil))
     (pss_cons (ps_if (pt_cmpR op_eq (pv 2) pe_int (nomark _)) (pss_cons (ps_set (i := 3) sc_l_spoilt_zone.nd rfl (.inl rfl) (pe_ix (ix_l (K := K)) (pv 1) (pe_cc C_l_pick hr (pa_cons (pv 0) (pa_cons (pe_callB (cl_len (K := K)) (by rfl) B.len PySem.boot_len (pa_cons (pv 1) pa_nil)) pa_nil))) (fun _ _ => rfl)))
     (pss_nil)) (pss_nil))
     (pss_cons (ps_expr (pe_bm PySem.F.plainAttrs_list PySem.F.slot_list_insert rfl mt_ins (pv 1) (pa_cons (pe_cc C_l_pick hr (pa_cons (pv 0) (pa_cons (pe_op op_add (pe_callB (cl_len (K := K)) (by rfl) B.len PySem.boot_len (pa_cons (pv 1) pa_nil)) pe_int) pa_nil))) (pa_cons (pv 3) pa_nil))))
     (pss_cons (ps_ret (pe_frz (pv 1))) pss_nil))))), ?_⟩
   have c0 : Chg (F0 ++ F1) H0 H0 := Chg.refl H0
   unfold Mi.m_l_spoilt_zone at hm
   refine q_asg ?_
   refine w_call ?_
   refine w_args (va_cons (val_var rfl) (va_cons val_c va_nil)) ?_
   obtain ⟨q3, hq3, hm⟩ := Mi.bnd hm
   refine ⟨v0, F0, d0, (4 : Int), q3, rfl, r0, hq3, fun H5 c4 r0 => ?_⟩
   have r1 := Ty.chg r1 c4 dd0_1.symm
   have c0 := c0.join c4 (fun a h => .inl (List.mem_append_left _ h))
   refine g_name (σ' := [some v0, some v1, some (.int q3.1), none]) rfl ?_
   refine q_asg ?_
   refine w_op ?_
   refine w_lst ?_
   refine w_args (va_cons (val_neg val_c) (va_cons val_c (va_cons (val_pow (n := 39) val_c val_c rfl (by decide) (by decide)) (va_cons val_c va_nil)))) ?_
   refine e_lst (K := K) (τ := yInt) (by exact Nat.le_of_ble_eq_true rfl) (.cons yInt_i (.cons yInt_i (.cons yInt_i (.cons yInt_i .nil)))) fun p6 H10 np9 c7 r8 => ?_
   have d11 : Dj F0 [p6] := Ty.nin r0 np9
   have d12 : Dj F1 [p6] := Ty.nin r1 np9
   have n13 : ∀ a ∈ [p6], H0 a = none := one_fresh (c0.dom p6 np9)
   have r0 := Ty.ex r0 c7
   have r1 := Ty.ex r1 c7
   have c0 := c0.trans c7.none
   refine c_val (val_var rfl) ?_
   obtain ⟨x14, hx14, hm⟩ := Mi.bnd hm
   refine w_ixL r8 hx14 fun u15 r16 => ?_
   obtain ⟨_, rfl⟩ := r16
   refine g_name (σ' := [some v0, some v1, some (.int q3.1), some (.int x14)]) rfl ?_
   obtain ⟨s17, hs17, hm⟩ := Mi.bnd hm
   refine s_join (R := fun σ' H' => σ' = [some v0, some v1, some (.int q3.1), some (.int x14)] ∧ Chg (F0 ++ F1) H0 H' ∧ (yLst yInt).rep K H' F0 v0 s17.1 ∧ (yLst yInt).rep K H' F1 v1 s17.2) (fun nx kx => ?_) (fun σ' H' hj => ?_)
   ·
     refine s_if (ans_andB (ans_t (val_eqI (val_var rfl) val_c)) (fun _ => (ans_t (val_eqI (val_lenL r1 (val_var rfl)) val_c)))) (fun hb => ?_) (fun hb => ?_)
     ·
       replace hs17 := Mi.ifT hb hs17
       refine q_drop (w_bm (c_val (val_var rfl) ⟨tyv_lst r1, ?_⟩))
       refine w_cons ?_
       refine w_call ?_
       refine w_args (va_cons (val_var rfl) (va_cons val_c va_nil)) ?_
       obtain ⟨q19, hq19, hs17⟩ := Mi.bnd hs17
       refine ⟨v0, F0, q3.2, (12 : Int), q19, rfl, r0, hq19, fun H21 c20 r0 => ?_⟩
       have r1 := Ty.chg r1 c20 dd0_1.symm
       have c0 := c0.join c20 (fun a h => .inl (List.mem_append_left _ h))
       refine w_nil ?_
       obtain ⟨x22, hx22, hs17⟩ := Mi.bnd hs17
       refine m_app r1 yInt_i hx22 fun H24 c23 r1 => ?_
       have r0 := Ty.chg r0 c23 dd0_1
       have c0 := c0.join c23 (fun a h => .inl (List.mem_append_right _ (h)))
       refine w_nextJ ?_
       obtain rfl := Option.some.inj hs17
       exact kx _ _ ⟨rfl, c0, r0, r1⟩
     ·
       replace hs17 := Mi.ifF hb hs17
       refine w_nextJ ?_
       obtain rfl := Option.some.inj hs17
       exact kx _ _ ⟨rfl, c0, r0, r1⟩
   obtain ⟨rfl, c0, r0, r1⟩ := hj
   obtain ⟨s25, hs25, hm⟩ := Mi.bnd hm
   refine s_join (R := fun σ' H' => σ' = [some v0, some v1, some (.int q3.1), some (.int s25.2)] ∧ Chg (F0 ++ F1) H0 H' ∧ (yLst yInt).rep K H' F0 v0 s25.1 ∧ (yLst yInt).rep K H' F1 v1 s17.2) (fun nx kx => ?_) (fun σ' H' hj => ?_)
   ·
     refine s_if (ans_t (val_eqI (val_var rfl) val_c)) (fun hb => ?_) (fun hb => ?_)
     ·
       replace hs25 := Mi.ifT hb hs25
       refine q_asg ?_
       refine w_op ?_
       refine c_val (val_var rfl) ?_
       refine w_call ?_
       refine w_args (va_cons (val_var rfl) (va_cons (val_lenL r1 (val_var rfl)) va_nil)) ?_
       obtain ⟨q26, hq26, hs25⟩ := Mi.bnd hs25
       refine ⟨v0, F0, s17.1, (s17.2.length : Int), q26, rfl, r0, hq26, fun H28 c27 r0 => ?_⟩
       have r1 := Ty.chg r1 c27 dd0_1.symm
       have c0 := c0.join c27 (fun a h => .inl (List.mem_append_left _ h))
       obtain ⟨x29, hx29, hs25⟩ := Mi.bnd hs25
       refine w_ixL r1 hx29 fun u30 r31 => ?_
       obtain ⟨_, rfl⟩ := r31
       refine g_name (σ' := [some v0, some v1, some (.int q3.1), some (.int x29)]) rfl ?_
       refine w_nextJ ?_
       obtain rfl := Option.some.inj hs25
       exact kx _ _ ⟨rfl, c0, r0, r1⟩
     ·
       replace hs25 := Mi.ifF hb hs25
       refine w_nextJ ?_
       obtain rfl := Option.some.inj hs25
       exact kx _ _ ⟨rfl, c0, r0, r1⟩
   obtain ⟨rfl, c0, r0, r1⟩ := hj
   refine q_drop (w_bm (c_val (val_var rfl) ⟨tyv_lst r1, ?_⟩))
   refine w_cons ?_
   refine w_call ?_
   refine w_args (va_cons (val_var rfl) (va_cons (val_add (val_lenL r1 (val_var rfl)) val_c) va_nil)) ?_
   obtain ⟨q32, hq32, hm⟩ := Mi.bnd hm
   refine ⟨v0, F0, s25.1, ((s17.2.length : Int) + (1 : Int)), q32, rfl, r0, hq32, fun H34 c33 r0 => ?_⟩
   have r1 := Ty.chg r1 c33 dd0_1.symm
   have c0 := c0.join c33 (fun a h => .inl (List.mem_append_left _ h))
   refine w_cons ?_
   refine c_val (val_var rfl) ?_
   refine w_nil ?_
   obtain ⟨z35, hz35, hm⟩ := Mi.bnd hm
   obtain ⟨x36, hx36, hm⟩ := Mi.bnd hm
   refine m_ins r1 yInt_i hz35 fun H38 c37 r1 => ?_
   rw [Option.some.inj hx36] at r1
   have r0 := Ty.chg r0 c37 dd0_1
   have c0 := c0.join c37 (fun a h => .inl (List.mem_append_right _ (h)))
   refine q_ret ?_
   refine w_frz ?_
   refine c_val (val_var rfl) ?_
   refine e_frz r1 fun H40 c39 r41 => ?_
   have r0 := Ty.chg r0 c39 dd0_1
   have c0 := c0.join c39 (fun a h => .inl (List.mem_append_right _ (h)))
   obtain rfl := Option.some.inj hm
   exact hQ _ _ c0 r41 r0
abbrev s_l_spoilt : Stmt := topS 42
theorem sc_l_spoilt : FnScope ["_law_hand_here", "_law_parts", "_law_kind"] ["_law_hand_here", "_law_parts"] (defScope s_l_spoilt) := ⟨rfl, rfl, rfl, by decide +kernel, rfl, by decide +kernel, by decide +kernel⟩
def sp_l_spoilt (K : PySem.W.Frag) : Sp := fun vs H Q _ => ∃ (v0 : V) (F0 : List Addr) (d0 : (List Int)) (v1 : V) (F1 : List Addr) (d1 : (List (Int ⊕ (List Int)))) (r : ((List (Int ⊕ (List Int))) × (List Int))), vs = [v0, v1] ∧ (yLst yInt).rep K H F0 v0 d0 ∧ (yLst (ySum yInt (yFl yInt))).rep K H F1 v1 d1 ∧ Dj F0 F1 ∧ Mi.m_l_spoilt d0 d1 = some r ∧ ∀ v H' F, Chg (F0 ++ F1) H H' → (yLst (ySum yInt (yFl yInt))).rep K H' F v r.1 → (∀ a ∈ F, H a = none ∨ a ∈ F1) → (yLst yInt).rep K H' F0 v0 r.2 → Q v H'
theorem ok_l_spoilt (B : Bi mg) (CN : Cs K mg) (D : Dfn K mg "_law_spoilt" s_l_spoilt) (C_l_pick : Cal P w K mg "_law_pick" ["_law_hand_here", "_law_size"] 1 (sp_l_pick K)) (C_l_spoilt_zone : Cal P w K mg "_law_spoilt_zone" ["_law_hand_here", "_law_zone"] 2 (sp_l_spoilt_zone K)) : Cal P w K mg "_law_spoilt" ["_law_hand_here", "_law_parts"] 3 (sp_l_spoilt K) := by
 obtain ⟨f, fd, F, g⟩ := D.ex
 refine ⟨f, fd, g, F.kp, bindsF F (fun _ _ _ _ _ _ us hl => match us, hl with | [_, _], _ => rfl), fun base => F.ok sc_l_spoilt (fun vs H Q E h => ?_) (fun cdv A outer s H0 vs Q E hr h => ?_)⟩
 · obtain ⟨v0, F0, d0, v1, F1, d1, r, rfl, r0, r1, dd0_1, hm, hQ⟩ := h; rfl
 ·
   obtain ⟨v0, F0, d0, v1, F1, d1, r, rfl, r0, r1, dd0_1, hm, hQ⟩ := h
   refine ⟨_, pss_cons (ps_set (i := 2) sc_l_spoilt.nd rfl (.inl rfl) (pe_cc C_l_pick hr (pa_cons (pv 0) (pa_cons pe_int pa_nil))))
     (pss_cons (ps_if (pt_cmpR op_eq (pe_op op_mod (pe_callTy cl_int (by rfl) B.int (by decide +kernel) (pa_cons (pv 2) pa_nil)) pe_int) pe_int (nomark _)) (pss_cons (ps_asg (pe_ix (ix_l (K := K)) (pe_lst (pa_cons (pe_un un_neg pe_int) (pa_cons pe_int (pa_cons (pe_op op_pow pe_int pe_int) (pa_cons (pe_un un_neg (pe_op op_pow pe_int pe_int)) pa_nil))))) (pe_cc C_l_pick hr (pa_cons (pv 0) (pa_cons pe_int pa_nil))) (fun _ _ => rfl)) (pg_sub (pv 1) pe_int set_list))
     (pss_nil)) (pss_nil))
     (pss_cons (ps_if (pt_cmpR op_eq (pe_op op_mod (pe_callTy cl_int (by rfl) B.int (by decide +kernel) (pa_cons (pe_op op_fdiv (pv 2) pe_int) pa_nil)) pe_int) pe_int (nomark _)) (pss_cons (ps_asg (pe_ix (ix_l (K := K)) (pe_lst (pa_cons (pe_un un_neg pe_int) (pa_cons pe_int (pa_cons (pe_op op_pow pe_int pe_int) (pa_cons (pe_un un_neg (pe_op op_pow pe_int pe_int)) pa_nil))))) (pe_cc C_l_pick hr (pa_cons (pv 0) (pa_cons pe_int pa_nil))) (fun _ _ => rfl)) (pg_sub (pv 1) pe_int set_list))
     (pss_nil)) (pss_nil))
     (pss_cons (ps_if (pt_cmpR op_eq (pe_op op_mod (pe_callTy cl_int (by rfl) B.int (by decide +kernel) (pa_cons (pe_op op_fdiv (pv 2) pe_int) pa_nil)) pe_int) pe_int (nomark _)) (pss_cons (ps_asg (pe_cc C_l_spoilt_zone hr (pa_cons (pv 0) (pa_cons (pe_callTy (cl_list (K := K)) (by rfl) B.list (by decide +kernel) (pa_cons (pe_ix (ix_l (K := K)) (pv 1) pe_int (fun _ _ => rfl)) pa_nil)) pa_nil))) (pg_sub (pv 1) pe_int set_list))
     (pss_nil)) (pss_nil))
     (pss_cons (ps_if (pt_cmpR op_eq (pe_op op_fdiv (pv 2) pe_int) pe_int (nomark _)) (pss_cons (ps_asg (pe_ix (ix_l (K := K)) (pe_lst (pa_cons pe_int (pa_cons pe_int (pa_cons (pe_op op_pow pe_int pe_int) (pa_cons (pe_un un_neg (pe_op op_pow pe_int pe_int)) pa_nil))))) (pe_cc C_l_pick hr (pa_cons (pv 0) (pa_cons pe_int pa_nil))) (fun _ _ => rfl)) (pg_sub (pv 1) pe_int set_list))
     (pss_nil)) (pss_nil))
     (pss_cons (ps_ret (pv 1)) pss_nil))))), ?_⟩
   have c0 : Chg (F0 ++ F1) H0 H0 := Chg.refl H0
   unfold Mi.m_l_spoilt at hm
   refine q_asg ?_
   refine w_call ?_
   refine w_args (va_cons (val_var rfl) (va_cons val_c va_nil)) ?_
   obtain ⟨q3, hq3, hm⟩ := Mi.bnd hm
   refine ⟨v0, F0, d0, (16 : Int), q3, rfl, r0, hq3, fun H5 c4 r0 => ?_⟩
   have r1 := Ty.chg r1 c4 dd0_1.symm
   have c0 := c0.join c4 (fun a h => .inl (List.mem_append_left _ h))
   refine g_name (σ' := [some v0, some v1, some (.int q3.1)]) rfl ?_
   obtain ⟨s6, hs6, hm⟩ := Mi.bnd hm
   refine s_join (R := fun σ' H' => σ' = [some v0, some v1, some (.int q3.1)] ∧ Chg (F0 ++ F1) H0 H' ∧ (yLst yInt).rep K H' F0 v0 s6.1 ∧ (yLst (ySum yInt (yFl yInt))).rep K H' F1 v1 s6.2) (fun nx kx => ?_) (fun σ' H' hj => ?_)
   ·
     refine s_if (ans_t (val_eqI (val_modc (val_int (val_var rfl)) val_c (by decide)) val_c)) (fun hb => ?_) (fun hb => ?_)
     ·
       replace hs6 := Mi.ifT hb hs6
       refine q_asg ?_
       refine w_op ?_
       refine w_lst ?_
       refine w_args (va_cons (val_neg val_c) (va_cons val_c (va_cons (val_pow (n := 39) val_c val_c rfl (by decide) (by decide)) (va_cons (val_neg (val_pow (n := 20) val_c val_c rfl (by decide) (by decide))) va_nil)))) ?_
       refine e_lst (K := K) (τ := yInt) (by exact Nat.le_of_ble_eq_true rfl) (.cons yInt_i (.cons yInt_i (.cons yInt_i (.cons yInt_i .nil)))) fun p7 H11 np10 c8 r9 => ?_
       have d12 : Dj F0 [p7] := Ty.nin r0 np10
       have d13 : Dj F1 [p7] := Ty.nin r1 np10
       have n14 : ∀ a ∈ [p7], H0 a = none := one_fresh (c0.dom p7 np10)
       have r0 := Ty.ex r0 c8
       have r1 := Ty.ex r1 c8
       have c0 := c0.trans c8.none
       refine w_call ?_
       refine w_args (va_cons (val_var rfl) (va_cons val_c va_nil)) ?_
       obtain ⟨q15, hq15, hs6⟩ := Mi.bnd hs6
       refine ⟨v0, F0, q3.2, (4 : Int), q15, rfl, r0, hq15, fun H17 c16 r0 => ?_⟩
       have r1 := Ty.chg r1 c16 dd0_1.symm
       have r9 := Ty.chg r9 c16 d12.symm
       have c0 := c0.join c16 (fun a h => .inl (List.mem_append_left _ h))
       obtain ⟨x18, hx18, hs6⟩ := Mi.bnd hs6
       refine w_ixL r9 hx18 fun u19 r20 => ?_
       obtain ⟨_, rfl⟩ := r20
       refine w_gsub ?_
       refine c_val (val_var rfl) ?_
       refine c_val val_c ?_
       obtain ⟨x21, hx21, hs6⟩ := Mi.bnd hs6
       refine m_set r1 (sum_l yInt_i) hx21 fun H23 c22 r1 => ?_
       have r0 := Ty.chg r0 c22 dd0_1
       have c0 := c0.join c22 (fun a h => .inl (List.mem_append_right _ (h)))
       refine w_nextJ ?_
       obtain rfl := Option.some.inj hs6
       exact kx _ _ ⟨rfl, c0, r0, r1⟩
     ·
       replace hs6 := Mi.ifF hb hs6
       refine w_nextJ ?_
       obtain rfl := Option.some.inj hs6
       exact kx _ _ ⟨rfl, c0, r0, r1⟩
   obtain ⟨rfl, c0, r0, r1⟩ := hj
   obtain ⟨s24, hs24, hm⟩ := Mi.bnd hm
   refine s_join (R := fun σ' H' => σ' = [some v0, some v1, some (.int q3.1)] ∧ Chg (F0 ++ F1) H0 H' ∧ (yLst yInt).rep K H' F0 v0 s24.1 ∧ (yLst (ySum yInt (yFl yInt))).rep K H' F1 v1 s24.2) (fun nx kx => ?_) (fun σ' H' hj => ?_)
   ·
     refine s_if (ans_t (val_eqI (val_modc (val_int (val_divc (val_var rfl) val_c ⟨by decide, by decide⟩)) val_c (by decide)) val_c)) (fun hb => ?_) (fun hb => ?_)
     ·
       replace hs24 := Mi.ifT hb hs24
       refine q_asg ?_
       refine w_op ?_
       refine w_lst ?_
       refine w_args (va_cons (val_neg val_c) (va_cons val_c (va_cons (val_pow (n := 39) val_c val_c rfl (by decide) (by decide)) (va_cons (val_neg (val_pow (n := 20) val_c val_c rfl (by decide) (by decide))) va_nil)))) ?_
       refine e_lst (K := K) (τ := yInt) (by exact Nat.le_of_ble_eq_true rfl) (.cons yInt_i (.cons yInt_i (.cons yInt_i (.cons yInt_i .nil)))) fun p25 H29 np28 c26 r27 => ?_
       have d30 : Dj F0 [p25] := Ty.nin r0 np28
       have d31 : Dj F1 [p25] := Ty.nin r1 np28
       have n32 : ∀ a ∈ [p25], H0 a = none := one_fresh (c0.dom p25 np28)
       have r0 := Ty.ex r0 c26
       have r1 := Ty.ex r1 c26
       have c0 := c0.trans c26.none
       refine w_call ?_
       refine w_args (va_cons (val_var rfl) (va_cons val_c va_nil)) ?_
       obtain ⟨q33, hq33, hs24⟩ := Mi.bnd hs24
       refine ⟨v0, F0, s6.1, (4 : Int), q33, rfl, r0, hq33, fun H35 c34 r0 => ?_⟩
       have r1 := Ty.chg r1 c34 dd0_1.symm
       have r27 := Ty.chg r27 c34 d30.symm
       have c0 := c0.join c34 (fun a h => .inl (List.mem_append_left _ h))
       obtain ⟨x36, hx36, hs24⟩ := Mi.bnd hs24
       refine w_ixL r27 hx36 fun u37 r38 => ?_
       obtain ⟨_, rfl⟩ := r38
       refine w_gsub ?_
       refine c_val (val_var rfl) ?_
       refine c_val val_c ?_
       obtain ⟨x39, hx39, hs24⟩ := Mi.bnd hs24
       refine m_set r1 (sum_l yInt_i) hx39 fun H41 c40 r1 => ?_
       have r0 := Ty.chg r0 c40 dd0_1
       have c0 := c0.join c40 (fun a h => .inl (List.mem_append_right _ (h)))
       refine w_nextJ ?_
       obtain rfl := Option.some.inj hs24
       exact kx _ _ ⟨rfl, c0, r0, r1⟩
     ·
       replace hs24 := Mi.ifF hb hs24
       refine w_nextJ ?_
       obtain rfl := Option.some.inj hs24
       exact kx _ _ ⟨rfl, c0, r0, r1⟩
   obtain ⟨rfl, c0, r0, r1⟩ := hj
   obtain ⟨s42, hs42, hm⟩ := Mi.bnd hm
   refine s_join (R := fun σ' H' => σ' = [some v0, some v1, some (.int q3.1)] ∧ Chg (F0 ++ F1) H0 H' ∧ (yLst yInt).rep K H' F0 v0 s42.1 ∧ (yLst (ySum yInt (yFl yInt))).rep K H' F1 v1 s42.2) (fun nx kx => ?_) (fun σ' H' hj => ?_)
   ·
     refine s_if (ans_t (val_eqI (val_modc (val_int (val_divc (val_var rfl) val_c ⟨by decide, by decide⟩)) val_c (by decide)) val_c)) (fun hb => ?_) (fun hb => ?_)
     ·
       replace hs42 := Mi.ifT hb hs42
       refine q_asg ?_
       refine w_call ?_
       refine w_cons ?_
       refine c_val (val_var rfl) ?_
       refine w_cons ?_
       refine w_cb ?_
       obtain ⟨x43, hx43, hs42⟩ := Mi.bnd hs42
       obtain ⟨u44, r45, ku46⟩ := itm_L r1 hx43
       obtain ⟨x47, hx47, hs42⟩ := Mi.bnd hs42
       have r48 := sum_R r45 hx47
       refine w_args (va_cons (ku46 (val_var rfl) val_c) va_nil) ?_
       refine w_listF r48 fun p49 H53 np52 c50 r51 => ?_
       have d54 : Dj F0 [p49] := Ty.nin r0 np52
       have d55 : Dj F1 [p49] := Ty.nin r1 np52
       have n56 : ∀ a ∈ [p49], H0 a = none := one_fresh (c0.dom p49 np52)
       have r0 := Ty.ex r0 c50
       have r1 := Ty.ex r1 c50
       have r48 := Ty.fz r48 c50
       have c0 := c0.trans c50.none
       refine w_nil ?_
       obtain ⟨q57, hq57, hs42⟩ := Mi.bnd hs42
       refine ⟨v0, F0, s24.1, (.ref p49), [p49], x47, q57, rfl, r0, r51, d54, hq57, fun v60 H59 c58 r61 r0 => ?_⟩
       have r1 := Ty.chg r1 c58 (Dj.symm (Dj.app (Dj.symm (dd0_1.symm)) (Dj.symm (d55))))
       have c0 := c0.join c58 (fun a h => (List.mem_append.mp h).elim (fun h => .inl (List.mem_append_left _ h)) (fun h => .inr (n56 a h)))
       refine w_gsub ?_
       refine c_val (val_var rfl) ?_
       refine c_val val_c ?_
       obtain ⟨x62, hx62, hs42⟩ := Mi.bnd hs42
       refine m_set r1 (sum_r r61) hx62 fun H64 c63 r1 => ?_
       have r0 := Ty.chg r0 c63 dd0_1
       have c0 := c0.join c63 (fun a h => .inl (List.mem_append_right _ (h)))
       refine w_nextJ ?_
       obtain rfl := Option.some.inj hs42
       exact kx _ _ ⟨rfl, c0, r0, r1⟩
     ·
       replace hs42 := Mi.ifF hb hs42
       refine w_nextJ ?_
       obtain rfl := Option.some.inj hs42
       exact kx _ _ ⟨rfl, c0, r0, r1⟩
   obtain ⟨rfl, c0, r0, r1⟩ := hj
   obtain ⟨s65, hs65, hm⟩ := Mi.bnd hm
   refine s_join (R := fun σ' H' => σ' = [some v0, some v1, some (.int q3.1)] ∧ Chg (F0 ++ F1) H0 H' ∧ (yLst yInt).rep K H' F0 v0 s65.1 ∧ (yLst (ySum yInt (yFl yInt))).rep K H' F1 v1 s65.2) (fun nx kx => ?_) (fun σ' H' hj => ?_)
   ·
     refine s_if (ans_t (val_eqI (val_divc (val_var rfl) val_c ⟨by decide, by decide⟩) val_c)) (fun hb => ?_) (fun hb => ?_)
     ·
       replace hs65 := Mi.ifT hb hs65
       refine q_asg ?_
       refine w_op ?_
       refine w_lst ?_
       refine w_args (va_cons val_c (va_cons val_c (va_cons (val_pow (n := 39) val_c val_c rfl (by decide) (by decide)) (va_cons (val_neg (val_pow (n := 20) val_c val_c rfl (by decide) (by decide))) va_nil)))) ?_
       refine e_lst (K := K) (τ := yInt) (by exact Nat.le_of_ble_eq_true rfl) (.cons yInt_i (.cons yInt_i (.cons yInt_i (.cons yInt_i .nil)))) fun p66 H70 np69 c67 r68 => ?_
       have d71 : Dj F0 [p66] := Ty.nin r0 np69
       have d72 : Dj F1 [p66] := Ty.nin r1 np69
       have n73 : ∀ a ∈ [p66], H0 a = none := one_fresh (c0.dom p66 np69)
       have r0 := Ty.ex r0 c67
       have r1 := Ty.ex r1 c67
       have c0 := c0.trans c67.none
       refine w_call ?_
       refine w_args (va_cons (val_var rfl) (va_cons val_c va_nil)) ?_
       obtain ⟨q74, hq74, hs65⟩ := Mi.bnd hs65
       refine ⟨v0, F0, s42.1, (4 : Int), q74, rfl, r0, hq74, fun H76 c75 r0 => ?_⟩
       have r1 := Ty.chg r1 c75 dd0_1.symm
       have r68 := Ty.chg r68 c75 d71.symm
       have c0 := c0.join c75 (fun a h => .inl (List.mem_append_left _ h))
       obtain ⟨x77, hx77, hs65⟩ := Mi.bnd hs65
       refine w_ixL r68 hx77 fun u78 r79 => ?_
       obtain ⟨_, rfl⟩ := r79
       refine w_gsub ?_
       refine c_val (val_var rfl) ?_
       refine c_val val_c ?_
       obtain ⟨x80, hx80, hs65⟩ := Mi.bnd hs65
       refine m_set r1 (sum_l yInt_i) hx80 fun H82 c81 r1 => ?_
       have r0 := Ty.chg r0 c81 dd0_1
       have c0 := c0.join c81 (fun a h => .inl (List.mem_append_right _ (h)))
       refine w_nextJ ?_
       obtain rfl := Option.some.inj hs65
       exact kx _ _ ⟨rfl, c0, r0, r1⟩
     ·
       replace hs65 := Mi.ifF hb hs65
       refine w_nextJ ?_
       obtain rfl := Option.some.inj hs65
       exact kx _ _ ⟨rfl, c0, r0, r1⟩
   obtain ⟨rfl, c0, r0, r1⟩ := hj
   refine q_ret ?_
   refine c_val (val_var rfl) ?_
   obtain rfl := Option.some.inj hm
   exact hQ _ _ _ c0 r1 (fun a h => .inr h) r0
abbrev s_l_first_wrong : Stmt := topS 43
abbrev N_l_first_wrong : List Str := ["_law_parts", "_law_zone", "_law_k"]
theorem sc_l_first_wrong : FnScope ["_law_parts", "_law_zone", "_law_k"] ["_law_parts"] (defScope s_l_first_wrong) := ⟨rfl, rfl, rfl, by decide +kernel, rfl, by decide +kernel, by decide +kernel⟩
def sp_l_first_wrong (K : PySem.W.Frag) : Sp := fun vs H Q _ => ∃ (v0 : V) (F0 : List Addr) (d0 : (List (Int ⊕ (List Int)))) (r : (Option (List Nat))), vs = [v0] ∧ (yLst (ySum yInt (yFl yInt))).rep K H F0 v0 d0 ∧ Mi.m_l_first_wrong d0 = some r ∧ ∀ v H', Chg ([]) H H' → (yOpt yStr).rep K H' [] v r → Q v H'
theorem ok_l_first_wrong (B : Bi mg) (CN : Cs K mg) (D : Dfn K mg "_law_first_wrong" s_l_first_wrong)  : Cal P w K mg "_law_first_wrong" ["_law_parts"] 1 (sp_l_first_wrong K) := by
 obtain ⟨f, fd, F, g⟩ := D.ex
 refine ⟨f, fd, g, F.kp, bindsF F (fun _ _ _ _ _ _ us hl => match us, hl with | [_], _ => rfl), fun base => F.ok sc_l_first_wrong (fun vs H Q E h => ?_) (fun cdv A outer s H0 vs Q E hr h => ?_)⟩
 · obtain ⟨v0, F0, d0, r, rfl, r0, hm, hQ⟩ := h; rfl
 ·
   obtain ⟨v0, F0, d0, r, rfl, r0, hm, hQ⟩ := h
   refine ⟨_, pss_cons (ps_if (PW.pt (pw_or (pt_cmpR op_lt (pe_ix (ix_l (K := K)) (pv 0) pe_int (fun _ _ => rfl)) pe_int (nomark _)) (pw_or1 (pt_cmpR op_gt (pe_ix (ix_l (K := K)) (pv 0) pe_int (fun _ _ => rfl)) pe_int (nomark _))))) (pss_cons (ps_ret pe_str) pss_nil) (pss_nil))
     (pss_cons (ps_if (PW.pt (pw_or (pt_cmpR op_lt (pe_ix (ix_l (K := K)) (pv 0) pe_int (fun _ _ => rfl)) pe_int (nomark _)) (pw_or1 (pt_cmpR op_gt (pe_ix (ix_l (K := K)) (pv 0) pe_int (fun _ _ => rfl)) pe_int (nomark _))))) (pss_cons (ps_ret pe_str) pss_nil) (pss_nil))
     (pss_cons (ps_set (i := 1) sc_l_first_wrong.nd rfl (.inr rfl) (pe_ix (ix_l (K := K)) (pv 0) pe_int (fun _ _ => rfl)))
     (pss_cons (ps_if (pt_cmpR op_gt (pe_callB (cl_len (K := K)) (by rfl) B.len PySem.boot_len (pa_cons (pe_lc (own := [("_law_k", 2)]) rfl sc_l_first_wrong.nd (pi_range1 (by rfl) B.range (pa_cons (pe_callB (cl_len (K := K)) (by rfl) B.len PySem.boot_len (pa_cons (pv 1) pa_nil)) pa_nil)) (blkOk_by (own := [("_law_k", 2)]) (N := N_l_first_wrong) (sc := defScope s_l_first_wrong) (by decide +kernel)) (fun _ _ _ _ _ => (pg_name (i := 2) sc_l_first_wrong.nd rfl (.inl rfl))) (fun _ _ _ _ _ => (pts_one (PW.pt (pw_or (pt_cmpR op_lt (pe_ix (ix_l (K := K)) (pv 1) (pv 2) (fun _ _ => rfl)) pe_int (nomark _)) (pw_or (pt_cmpR op_gt (pe_ix (ix_l (K := K)) (pv 1) (pv 2) (fun _ _ => rfl)) pe_int (nomark _)) (pw_or1 (pt_cmpR (op_in_q (K := K)) (pe_ix (ix_l (K := K)) (pv 1) (pv 2) (fun _ _ => rfl)) (pe_slice (sl_l (K := K)) (pv 1) po_none (po_some (pv 2))) (by rfl)))))))) (fun _ _ _ _ _ => (pv 2))) pa_nil)) pe_int (nomark _)) (pss_cons (ps_ret pe_str) pss_nil) (pss_nil))
     (pss_cons (ps_if (PW.pt (pw_or (pt_cmpR op_lt (pe_ix (ix_l (K := K)) (pv 0) pe_int (fun _ _ => rfl)) pe_int (nomark _)) (pw_or1 (pt_cmpR op_gt (pe_ix (ix_l (K := K)) (pv 0) pe_int (fun _ _ => rfl)) pe_int (nomark _))))) (pss_cons (ps_ret pe_str) pss_nil) (pss_nil))
     (pss_cons (ps_ret pe_non) pss_nil))))), ?_⟩
   have c0 : Chg ([] : List Addr) H0 H0 := Chg.refl H0
   unfold Mi.m_l_first_wrong at hm
   obtain ⟨x2, hx2, hm⟩ := Mi.bnd hm
   obtain ⟨u3, r4, ku5⟩ := itm_L r0 hx2
   obtain ⟨x6, hx6, hm⟩ := Mi.bnd hm
   have r7 := sum_L r4 hx6
   obtain ⟨_, rfl⟩ := r7
   obtain ⟨b15, hb15, hm⟩ := Mi.bnd hm
   refine q_if (ans_orO (ans_t (val_lt (ku5 (val_var rfl) val_c) val_c)) hb15 (fun hs8 => by (obtain ⟨x9, hx9, hs8⟩ := Mi.bnd hs8; obtain ⟨u10, r11, ku12⟩ := itm_L r0 hx9; obtain ⟨x13, hx13, hs8⟩ := Mi.bnd hs8; have r14 := sum_L r11 hx13; obtain ⟨_, rfl⟩ := r14; cases hs8; exact (ans_t (val_gt (ku12 (val_var rfl) val_c) val_c))))) (fun hb => ?_) (fun hb => ?_)
   ·
     replace hm := Mi.ifT hb hm
     refine q_ret ?_
     refine c_val (val_cS (a := ([115, 104, 105, 112] : List Nat)) (by decide +kernel)) ?_
     obtain rfl := Option.some.inj hm
     exact hQ _ _ c0 (opt_i nn_str yStr_i) 
   replace hm := Mi.ifF hb hm
   refine w_fall ?_
   obtain ⟨x16, hx16, hm⟩ := Mi.bnd hm
   obtain ⟨u17, r18, ku19⟩ := itm_L r0 hx16
   obtain ⟨x20, hx20, hm⟩ := Mi.bnd hm
   have r21 := sum_L r18 hx20
   obtain ⟨_, rfl⟩ := r21
   obtain ⟨b29, hb29, hm⟩ := Mi.bnd hm
   refine q_if (ans_orO (ans_t (val_lt (ku19 (val_var rfl) val_c) val_c)) hb29 (fun hs22 => by (obtain ⟨x23, hx23, hs22⟩ := Mi.bnd hs22; obtain ⟨u24, r25, ku26⟩ := itm_L r0 hx23; obtain ⟨x27, hx27, hs22⟩ := Mi.bnd hs22; have r28 := sum_L r25 hx27; obtain ⟨_, rfl⟩ := r28; cases hs22; exact (ans_t (val_gt (ku26 (val_var rfl) val_c) val_c))))) (fun hb => ?_) (fun hb => ?_)
   ·
     replace hm := Mi.ifT hb hm
     refine q_ret ?_
     refine c_val (val_cS (a := ([104, 111, 117, 114] : List Nat)) (by decide +kernel)) ?_
     obtain rfl := Option.some.inj hm
     exact hQ _ _ c0 (opt_i nn_str yStr_i) 
   replace hm := Mi.ifF hb hm
   refine w_fall ?_
   obtain ⟨x30, hx30, hm⟩ := Mi.bnd hm
   obtain ⟨u31, r32, ku33⟩ := itm_L r0 hx30
   obtain ⟨x34, hx34, hm⟩ := Mi.bnd hm
   have r35 := sum_R r32 hx34
   refine q_setE (ku33 (val_var rfl) val_c) rfl (σ' := [some v0, some u31, none]) rfl ?_
   refine q_ifS ?_
   refine w_test ?_
   refine w_op ?_
   refine w_cb ?_
   refine w_cons ?_
   refine w_lc ?_
   refine w_iRng1 ?_
   refine w_args (va_cons (val_lenF r35 (val_var rfl)) va_nil) ?_
   obtain ⟨g36, hg36, hm⟩ := Mi.bnd hm
   obtain ⟨e37, he37, hm⟩ := Mi.bnd hm
   refine kc_rng1 (K := K) (τ := yInt) hg36 (fun D39 i H' => ∃ (s38 : (List Int)), Chg ([] : List Addr) H0 H' ∧ (yLst (ySum yInt (yFl yInt))).rep K H' F0 v0 d0 ∧ (yFl yInt).rep K H' [] u31 x34 ∧ (yLst yInt).rep K H' [D39] (.ref D39) s38 ∧ Dj F0 [D39] ∧ (∀ a ∈ [D39], H0 a = none) ∧ Mi.forN (Mi.m_l_first_wrong_b1 x34) s38 (List.drop i g36) = some e37) (fun D39 H46 np45 c44 r40 => ⟨([] : (List Int)), c0.trans c44.none, (Ty.ex r0 c44), (Ty.fz r35 c44), r40, Ty.nin r0 np45, one_fresh (c0.dom D39 np45), he37⟩) (fun D39 i49 x48 H50 hx47 hp => ?_) (fun D39 H' np45 hp => ?_)
   ·
     obtain ⟨s38, c0, r0, r35, r40, d41, n43, hle37⟩ := hp
     obtain ⟨_, hbe37, hle37⟩ := Mi.forN_go hle37 hx47
     unfold Mi.m_l_first_wrong_b1 at hbe37
     refine g_name (σ' := [some v0, some u31, some (.int x48)]) rfl ?_
     refine ⟨rfl, ?_⟩
     obtain ⟨b57, hb57, hbe37⟩ := Mi.bnd hbe37
     refine j_tt b57 (R := fun H' => Chg ([] : List Addr) H0 H' ∧ (yLst (ySum yInt (yFl yInt))).rep K H' F0 v0 d0 ∧ (yFl yInt).rep K H' [] u31 x34 ∧ (yLst yInt).rep K H' [D39] (.ref D39) s38) (fun Q' kq => ?_) (fun H' hj => ?_)
     ·
       refine w_or ?_
       obtain ⟨x58, hx58, hb57⟩ := Mi.bnd hb57
       refine c_ans (ans_t (val_lt (itm_FI r35 hx58 (val_var rfl) (val_var rfl)) val_c)) ?_
       refine c_if (fun hb => ?_) (fun hb => ?_)
       ·
         replace hb57 := Mi.ifT hb hb57
         obtain rfl := Option.some.inj hb57
         exact kq _ ⟨c0, r0, r35, r40⟩
       replace hb57 := Mi.ifF hb hb57
       refine w_or ?_
       obtain ⟨x59, hx59, hb57⟩ := Mi.bnd hb57
       refine c_ans (ans_t (val_gt (itm_FI r35 hx59 (val_var rfl) (val_var rfl)) val_c)) ?_
       refine c_if (fun hb => ?_) (fun hb => ?_)
       ·
         replace hb57 := Mi.ifT hb hb57
         obtain rfl := Option.some.inj hb57
         exact kq _ ⟨c0, r0, r35, r40⟩
       replace hb57 := Mi.ifF hb hb57
       refine w_test ?_
       refine w_op ?_
       obtain ⟨x60, hx60, hb57⟩ := Mi.bnd hb57
       refine c_val (itm_FI r35 hx60 (val_var rfl) (val_var rfl)) ?_
       refine w_sl ?_
       refine c_val (val_var rfl) ?_
       refine w_pon ?_
       refine w_pos ?_
       refine c_val (val_var rfl) ?_
       refine ⟨_, rfl, ?_⟩
       refine w_cutF r35 fun p61 H65 np64 c62 r63 => ?_
       have d66 : Dj F0 [p61] := Ty.nin r0 np64
       have d67 : Dj [D39] [p61] := Ty.nin r40 np64
       have n68 : ∀ a ∈ [p61], H0 a = none := one_fresh (c0.dom p61 np64)
       have r0 := Ty.ex r0 c62
       have r35 := Ty.fz r35 c62
       have r40 := Ty.ex r40 c62
       have c0 := c0.trans c62.none
       refine w_inL r63 ?_
       refine ⟨_, rfl, ?_⟩
       obtain rfl := Option.some.inj hb57
       exact kq _ ⟨c0, r0, r35, r40⟩
     obtain ⟨c0, r0, r35, r40⟩ := hj
     refine c_if (fun hb => ?_) (fun hb => ?_)
     ·
       replace hbe37 := Mi.ifT hb hbe37
       refine c_val (val_var rfl) ?_
       obtain ⟨x69, hx69, hbe37⟩ := Mi.bnd hbe37
       refine e_app r40 yInt_i hx69 fun H71 c70 r40 => ?_
       have r0 := Ty.chg r0 c70 d41
       have r35 := Ty.fz r35 c70
       have c0 := c0.join c70 (fun a h => .inr (n43 a h))
       obtain rfl := Option.some.inj hbe37
       exact ⟨x69, c0, r0, r35, r40, d41, n43, hle37⟩
     ·
       replace hbe37 := Mi.ifF hb hbe37
       obtain rfl := Option.some.inj hbe37
       exact ⟨s38, c0, r0, r35, r40, d41, n43, hle37⟩
   obtain ⟨s38, c0, r0, r35, r40, d41, n43, hle37⟩ := hp
   obtain rfl := Mi.forN_end hle37
   refine w_nil ?_
   refine w_lenL r40 ?_
   refine c_val val_c ?_
   refine w_I0 ?_
   refine ⟨_, rfl, ?_⟩
   refine c_if (fun hb => ?_) (fun hb => ?_)
   ·
     replace hm := Mi.ifT hb hm
     refine q_ret ?_
     refine c_val (val_cS (a := ([122, 111, 110, 101] : List Nat)) (by decide +kernel)) ?_
     obtain rfl := Option.some.inj hm
     exact hQ _ _ c0 (opt_i nn_str yStr_i) 
   replace hm := Mi.ifF hb hm
   refine w_fall ?_
   obtain ⟨x72, hx72, hm⟩ := Mi.bnd hm
   obtain ⟨u73, r74, ku75⟩ := itm_L r0 hx72
   obtain ⟨x76, hx76, hm⟩ := Mi.bnd hm
   have r77 := sum_L r74 hx76
   obtain ⟨_, rfl⟩ := r77
   obtain ⟨b85, hb85, hm⟩ := Mi.bnd hm
   refine q_if (ans_orO (ans_t (val_lt (ku75 (val_var rfl) val_c) val_c)) hb85 (fun hs78 => by (obtain ⟨x79, hx79, hs78⟩ := Mi.bnd hs78; obtain ⟨u80, r81, ku82⟩ := itm_L r0 hx79; obtain ⟨x83, hx83, hs78⟩ := Mi.bnd hs78; have r84 := sum_L r81 hx83; obtain ⟨_, rfl⟩ := r84; cases hs78; exact (ans_t (val_gt (ku82 (val_var rfl) val_c) val_c))))) (fun hb => ?_) (fun hb => ?_)
   ·
     replace hm := Mi.ifT hb hm
     refine q_ret ?_
     refine c_val (val_cS (a := ([119, 101, 105, 103, 104, 116] : List Nat)) (by decide +kernel)) ?_
     obtain rfl := Option.some.inj hm
     exact hQ _ _ c0 (opt_i nn_str yStr_i) 
   replace hm := Mi.ifF hb hm
   refine w_fall ?_
   refine q_ret ?_
   refine c_val val_c ?_
   obtain rfl := Option.some.inj hm
   exact hQ _ _ c0 opt_n 
abbrev s_l_handed : Stmt := topS 44
theorem sc_l_handed : FnScope ["_law_zone", "_law_form"] ["_law_zone", "_law_form"] (defScope s_l_handed) := ⟨rfl, rfl, rfl, by decide +kernel, rfl, by decide +kernel, by decide +kernel⟩
def sp_l_handed (K : PySem.W.Frag) : Sp := fun vs H Q _ => (∃ (v0 : V) (d0 : (List Int)) (d1 : Int) (r : ((List Int) ⊕ (List Int))), vs = [v0, (.int d1)] ∧ (yFl yInt).rep K H [] v0 d0 ∧ Mi.m_l_handed_0 d0 d1 = some r ∧ ∀ v H' F, Chg ([]) H H' → (ySum (yLst yInt) (yTupL yInt)).rep K H' F v r → (∀ a ∈ F, H a = none) → Q v H') ∨ (∃ (v0 : V) (F0 : List Addr) (d0 : (List Int)) (d1 : Int) (r : ((List Int) ⊕ (List Int))), vs = [v0, (.int d1)] ∧ (yLst yInt).rep K H F0 v0 d0 ∧ Mi.m_l_handed_1 d0 d1 = some r ∧ ∀ v H' F, Chg ([]) H H' → (ySum (yLst yInt) (yTupL yInt)).rep K H' F v r → (∀ a ∈ F, H a = none) → Q v H')
theorem ok_l_handed (B : Bi mg) (CN : Cs K mg) (D : Dfn K mg "_law_handed" s_l_handed)  : Cal P w K mg "_law_handed" ["_law_zone", "_law_form"] 1 (sp_l_handed K) := by
 obtain ⟨f, fd, F, g⟩ := D.ex
 refine ⟨f, fd, g, F.kp, bindsF F (fun _ _ _ _ _ _ us hl => match us, hl with | [_, _], _ => rfl), fun base => F.ok sc_l_handed (fun vs H Q E h => ?_) (fun cdv A outer s H0 vs Q E hr h => ?_)⟩
 · rcases h with ⟨v0, d0, d1, r, rfl, r0, hm, hQ⟩ | ⟨v0, F0, d0, d1, r, rfl, r0, hm, hQ⟩
   all_goals rfl
 · rcases h with h | h
   ·
     obtain ⟨v0, d0, d1, r, rfl, r0, hm, hQ⟩ := h
     refine ⟨_, pss_cons (ps_if (pt_cmpR op_eq (pv 1) pe_int (nomark _)) (pss_cons (ps_ret (pe_callTy (cl_tuple (K := K)) (by rfl) B.tuple (by decide +kernel) (pa_cons (pv 0) pa_nil))) pss_nil) (pss_nil))
     (pss_cons (ps_ret (pe_callTy (cl_list (K := K)) (by rfl) B.list (by decide +kernel) (pa_cons (pv 0) pa_nil))) pss_nil), ?_⟩
     have c0 : Chg ([] : List Addr) H0 H0 := Chg.refl H0
     unfold Mi.m_l_handed_0 at hm
     refine q_if (ans_t (val_eqI (val_var rfl) val_c)) (fun hb => ?_) (fun hb => ?_)
     ·
       replace hm := Mi.ifT hb hm
       refine q_ret ?_
       refine w_cb ?_
       refine w_args (va_cons (val_var rfl) va_nil) ?_
       refine w_tupleF r0 fun v3 H4 c5 r6 => ?_
       have r0 := Ty.fz r0 c5
       have c0 := c0.trans c5.none
       obtain rfl := Option.some.inj hm
       exact hQ _ _ _ c0 (sum_r r6) nil_fresh 
     replace hm := Mi.ifF hb hm
     refine w_fall ?_
     refine q_ret ?_
     refine w_cb ?_
     refine w_args (va_cons (val_var rfl) va_nil) ?_
     refine w_listF r0 fun p7 H11 np10 c8 r9 => ?_
     have n12 : ∀ a ∈ [p7], H0 a = none := one_fresh (c0.dom p7 np10)
     have r0 := Ty.fz r0 c8
     have c0 := c0.trans c8.none
     obtain rfl := Option.some.inj hm
     exact hQ _ _ _ c0 (sum_l r9) n12 
   ·
     obtain ⟨v0, F0, d0, d1, r, rfl, r0, hm, hQ⟩ := h
     refine ⟨_, pss_cons (ps_if (pt_cmpR op_eq (pv 1) pe_int (nomark _)) (pss_cons (ps_ret (pe_callTy (cl_tuple (K := K)) (by rfl) B.tuple (by decide +kernel) (pa_cons (pv 0) pa_nil))) pss_nil) (pss_nil))
     (pss_cons (ps_ret (pe_callTy (cl_list (K := K)) (by rfl) B.list (by decide +kernel) (pa_cons (pv 0) pa_nil))) pss_nil), ?_⟩
     have c0 : Chg ([] : List Addr) H0 H0 := Chg.refl H0
     unfold Mi.m_l_handed_1 at hm
     refine q_if (ans_t (val_eqI (val_var rfl) val_c)) (fun hb => ?_) (fun hb => ?_)
     ·
       replace hm := Mi.ifT hb hm
       refine q_ret ?_
       refine w_cb ?_
       refine w_args (va_cons (val_var rfl) va_nil) ?_
       refine w_tupleL r0 fun v3 H4 c5 r6 => ?_
       have r0 := Ty.ex r0 c5
       have c0 := c0.trans c5.none
       obtain rfl := Option.some.inj hm
       exact hQ _ _ _ c0 (sum_r r6) nil_fresh 
     replace hm := Mi.ifF hb hm
     refine w_fall ?_
     refine q_ret ?_
     refine w_cb ?_
     refine w_args (va_cons (val_var rfl) va_nil) ?_
     refine w_listL r0 fun p7 H11 np10 c8 r9 => ?_
     have d12 : Dj F0 [p7] := Ty.nin r0 np10
     have n13 : ∀ a ∈ [p7], H0 a = none := one_fresh (c0.dom p7 np10)
     have r0 := Ty.ex r0 c8
     have c0 := c0.trans c8.none
     obtain rfl := Option.some.inj hm
     exact hQ _ _ _ c0 (sum_l r9) n13 
abbrev s_l_refused : Stmt := topS 45
theorem sc_l_refused : FnScope ["_law_parts", "_law_form", "_law_says", "e"] ["_law_parts", "_law_form", "_law_says"] (defScope s_l_refused) := ⟨rfl, rfl, rfl, by decide +kernel, rfl, by decide +kernel, by decide +kernel⟩
def sp_l_refused (K : PySem.W.Frag) : Sp := fun vs H Q _ => ∃ (v0 : V) (F0 : List Addr) (d0 : (List (Int ⊕ (List Int)))) (d1 : Int) (d2 : Bool) (r : (Option (List Nat))), vs = [v0, (.int d1), (.bl d2)] ∧ (yLst (ySum yInt (yFl yInt))).rep K H F0 v0 d0 ∧ Mi.m_l_refused d0 d1 d2 = some r ∧ ∀ v H', Chg ([]) H H' → (yOpt yStr).rep K H' [] v r → Q v H'
theorem ok_l_refused (B : Bi mg) (CN : Cs K mg) (D : Dfn K mg "_law_refused" s_l_refused) {C_Report : Addr} (T_Report : Tx K mg C_Report "Report" nm_Report) (I_ReportX : CalIX P w K mg C_Report "Report.__init__" s_Report_init_x (kw_Report K) ["self", "ship", "hour", "zone", "weight", "inside"] 2 (sp_Report_init_x K C_Report)) (C_l_handed : Cal P w K mg "_law_handed" ["_law_zone", "_law_form"] 1 (sp_l_handed K)) : Cal P w K mg "_law_refused" ["_law_parts", "_law_form", "_law_says"] 4 (sp_l_refused K) := by
 obtain ⟨f, fd, F, g⟩ := D.ex
 refine ⟨f, fd, g, F.kp, bindsF F (fun _ _ _ _ _ _ us hl => match us, hl with | [_, _, _], _ => rfl), fun base => F.ok sc_l_refused (fun vs H Q E h => ?_) (fun cdv A outer s H0 vs Q E hr h => ?_)⟩
 · obtain ⟨v0, F0, d0, d1, d2, r, rfl, r0, hm, hQ⟩ := h; rfl
 ·
   obtain ⟨v0, F0, d0, d1, d2, r, rfl, r0, hm, hQ⟩ := h
   obtain ⟨fI_ReportX, fdI_ReportX, MI_ReportX, FI_ReportX, OI_ReportX⟩ := I_ReportX.ex
   obtain ⟨mv_kb_ReportX_3_weight_inside, kb_ReportX_3_weight_inside⟩ := FunD.kbinds0 (ps := ["self", "ship", "hour", "zone", "weight", "inside"]) FI_ReportX 4 ["weight", "inside"] [] (fun us mv ws => permG [0, 1, 2, 3, 4, 5] us mv ws) (by intro z; cases z) (fun q hq => nomatch hq) (fun r1 r2 r3 => permG_rel _ r1 r2 r3) (fun _ _ _ _ _ _ us mv ws h1 h2 h3 => match us, mv, ws, h1, h2, h3 with | [_, _, _, _], [], [_, _], _, _, _ => rfl)
   refine ⟨_, pss_cons (ps_try_as (i := 3) rfl rfl sc_l_refused.nd rfl rfl ⟨rfl, by decide, .inl CN.g_InvalidReport⟩ take0 (fun W pn xe tk _ => pss_cons (ps_expr (pe_makeKS MI_ReportX (OI_ReportX base) (hr.mono (by decide)) (by rfl) T_Report.mgC kb_ReportX_3_weight_inside (fun σ => passAt tk σ) (pa_cons (pe_ix (ix_l (K := K)) (pv 0) pe_int (fun _ _ => rfl)) (pa_cons (pe_ix (ix_l (K := K)) (pv 0) pe_int (fun _ _ => rfl)) (pa_cons (pe_cc C_l_handed hr (pa_cons (pe_ix (ix_l (K := K)) (pv 0) pe_int (fun _ _ => rfl)) (pa_cons (pv 1) pa_nil))) pa_nil))) (pk_cons (pe_ix (ix_l (K := K)) (pv 0) pe_int (fun _ _ => rfl)) (pk_cons (pv 2) pk_nil)))) pss_nil) (fun ae oe cl de pn hz hf => pss_cons (ps_if (pt_val (pe_callB (call_isEt CN.x_InvalidReport.xi hz hf) (by rfl) B.isinstance (by decide +kernel) (pa_cons (pv 3) (pa_cons (pe_tup (pa_cons (pe_glob (v := .ref (He.ga K "InvalidChart")) (by rfl) CN.g_InvalidChart rfl) (pa_cons (pe_glob (v := .ref (He.ga K "InvalidLetter")) (by rfl) CN.g_InvalidLetter rfl) (pa_cons (pe_glob (v := .ref (He.ga K "InvalidLight")) (by rfl) CN.g_InvalidLight rfl) (pa_cons (pe_glob (v := .ref (He.ga K "InvalidOrder")) (by rfl) CN.g_InvalidOrder rfl) (pa_cons (pe_glob (v := .ref (He.ga K "InvalidReceipt")) (by rfl) CN.g_InvalidReceipt rfl) (pa_cons (pe_glob (v := .ref (He.ga K "InvalidSetting")) (by rfl) CN.g_InvalidSetting rfl) pa_nil))))))) pa_nil)))) (pss_cons ps_never pss_nil) pss_nil)
     (pss_cons (ps_if (pt_val (pe_callB (call_isEt CN.x_InvalidReport.xi hz hf) (by rfl) B.isinstance (by decide +kernel) (pa_cons (pv 3) (pa_cons (pe_tup (pa_cons (pe_glob (v := .ref (He.ga K "InvalidShip")) (by rfl) CN.g_InvalidShip rfl) (pa_cons (pe_glob (v := .ref (He.ga K "InvalidStay")) (by rfl) CN.g_InvalidStay rfl) (pa_cons (pe_glob (v := .ref (He.ga K "NoDriving")) (by rfl) CN.g_NoDriving rfl) (pa_cons (pe_glob (v := .ref (He.ga K "NoRun")) (by rfl) CN.g_NoRun rfl) (pa_cons (pe_glob (v := .ref (He.ga K "NoSuchNumber")) (by rfl) CN.g_NoSuchNumber rfl) (pa_cons (pe_glob (v := .ref (He.ga K "NothingToRedo")) (by rfl) CN.g_NothingToRedo rfl) (pa_cons (pe_glob (v := .ref (He.ga K "NothingToUndo")) (by rfl) CN.g_NothingToUndo rfl) pa_nil)))))))) pa_nil)))) (pss_cons ps_never pss_nil) pss_nil)
     (pss_cons (ps_if (pt_val (pe_callB (call_isEt CN.x_InvalidReport.xi hz hf) (by rfl) B.isinstance (by decide +kernel) (pa_cons (pv 3) (pa_cons (pe_tup (pa_cons (pe_glob (v := .ref (He.ga K "BadClaim")) (by rfl) CN.g_BadClaim rfl) (pa_cons (pe_glob (v := .ref (He.ga K "BadText")) (by rfl) CN.g_BadText rfl) (pa_cons (pe_glob (v := .ref (He.ga K "Contradiction")) (by rfl) CN.g_Contradiction rfl) (pa_cons (pe_glob (v := .ref (He.ga K "DoesNotFit")) (by rfl) CN.g_DoesNotFit rfl) (pa_cons (pe_glob (v := .ref (He.ga K "NotInPlay")) (by rfl) CN.g_NotInPlay rfl) (pa_cons (pe_glob (v := .ref (He.ga K "NoWay")) (by rfl) CN.g_NoWay rfl) (pa_cons (pe_glob (v := .ref (He.ga K "NoWorld")) (by rfl) CN.g_NoWorld rfl) (pa_cons (pe_glob (v := .ref (He.ga K "UnknownEntry")) (by rfl) CN.g_UnknownEntry rfl) pa_nil))))))))) pa_nil)))) (pss_cons ps_never pss_nil) pss_nil)
     (pss_cons (ps_if (pt_not (pt_val (pe_callB (cl_isi (K := K)) (by rfl) B.isinstance (by decide +kernel) (pa_cons (pe_xf CN.x_InvalidReport.xf CN.x_InvalidReport.np hz hf (pv 3)) (pa_cons (pe_bltn (v := .ty "str") (by rfl) B.str (by decide +kernel) rfl) pa_nil))))) (pss_cons (ps_ret pe_str) pss_nil) (pss_nil))
     (pss_cons (ps_ret (pe_xf CN.x_InvalidReport.xf CN.x_InvalidReport.np hz hf (pv 3))) pss_nil))))))
     (pss_cons (ps_ret pe_non) pss_nil), ?_⟩
   have c0 : Chg ([] : List Addr) H0 H0 := Chg.refl H0
   unfold Mi.m_l_refused at hm
   refine q_try ?_
   refine q_drop ?_
   refine w_makeKS ?_
   refine w_cons ?_
   obtain ⟨x4, hx4, hm⟩ := Mi.bnd hm
   obtain ⟨u5, r6, ku7⟩ := itm_L r0 hx4
   obtain ⟨x8, hx8, hm⟩ := Mi.bnd hm
   have r9 := sum_L r6 hx8
   obtain ⟨_, rfl⟩ := r9
   refine c_val (ku7 (val_var rfl) val_c) ?_
   refine w_cons ?_
   obtain ⟨x10, hx10, hm⟩ := Mi.bnd hm
   obtain ⟨u11, r12, ku13⟩ := itm_L r0 hx10
   obtain ⟨x14, hx14, hm⟩ := Mi.bnd hm
   have r15 := sum_L r12 hx14
   obtain ⟨_, rfl⟩ := r15
   refine c_val (ku13 (val_var rfl) val_c) ?_
   refine w_cons ?_
   refine w_call ?_
   obtain ⟨x16, hx16, hm⟩ := Mi.bnd hm
   obtain ⟨u17, r18, ku19⟩ := itm_L r0 hx16
   obtain ⟨x20, hx20, hm⟩ := Mi.bnd hm
   have r21 := sum_R r18 hx20
   refine w_args (va_cons (ku19 (val_var rfl) val_c) (va_cons (val_var rfl) va_nil)) ?_
   obtain ⟨q22, hq22, hm⟩ := Mi.bnd hm
   refine Or.inl ⟨u17, x20, d1, q22, rfl, r21, hq22, fun v25 H24 F27 c23 r26 fr28  => ?_⟩
   have d29 : Dj F0 F27 := Ty.fresh r0 fr28
   have n30 : ∀ a ∈ F27, H0 a = none := fun a h => c0.dom a (fr28 a h)
   have r0 := Ty.ex r0 c23
   have c0 := c0.trans c23.none
   refine w_nil ?_
   obtain ⟨x31, hx31, hm⟩ := Mi.bnd hm
   obtain ⟨u32, r33, ku34⟩ := itm_L r0 hx31
   obtain ⟨x35, hx35, hm⟩ := Mi.bnd hm
   have r36 := sum_L r33 hx35
   obtain ⟨_, rfl⟩ := r36
   refine w_args (va_cons (ku34 (val_var rfl) val_c) (va_cons (val_var rfl) va_nil)) ?_
   refine ⟨rfl, rfl, ?_⟩
   intro p37 dx38 nx39 ndx40 nex41
   have d42 : Dj F0 [p37] := Ty.nin r0 nx39
   have d43 : Dj F27 [p37] := Ty.nin r26 nx39
   have n44 : ∀ a ∈ [p37], H0 a = none := one_fresh (c0.dom p37 nx39)
   obtain ⟨c45, r46⟩ := make_new (K := K) (C := C_Report) nx39 ndx40 nex41
   have r0 := Ty.ex r0 c45
   have r26 := Ty.ex r26 c45
   have c0 := c0.trans c45.none
   obtain ⟨q47, hq47, hm⟩ := Mi.bnd hm
   refine ⟨p37, dx38, x8, x14, v25, F27, q22, x35, d2, q47, rfl, r46, r26, d43.symm, hq47, fun y51 yh52 d53 H58 c57 nn54 => ?_, fun q55 hqv56 H49 c48 r50 => ⟨rfl, ?_⟩⟩
   ·
     subst yh52
     replace hm := Mi.tryL hm
     have r0 := Ty.chg r0 c57 d42
     have c0 := c0.join c57 (fun a h => .inr (n44 a h))
     have c59 : Chg [] H58 (upd H58 d53 (.xd [(("part" : Str), (.str (toS y51)))])) := Chg.lay nn54 trivial
     have r0 := Ty.ex r0 c59
     have c0 := c0.trans c59.none
     have hxd : (upd H58 d53 (.xd [(("part" : Str), (.str (toS y51)))])) d53 = some (.xd [(("part" : Str), (.str (toS y51)))]) := upd_same
     refine w_exc CN.em_InvalidReport_InvalidReport (fun ae60 na61 => ?_)
     refine st_eq (σ' := [some v0, some (.int d1), some (.bl d2), some (.ref ae60)]) rfl ?_
     refine q_isT (val_var rfl) hxd (va_cons val_c (va_cons val_c (va_cons val_c (va_cons val_c (va_cons val_c (va_cons val_c va_nil)))))) (cp_cons (cp_cons (cp_cons (cp_cons (cp_cons (cp_cons .nil)))))) CN.kt_InvalidReport_InvalidChart_6 (Nat.le_of_ble_eq_true rfl) (fun H63 c62 hxd => ?_)
     have r0 := Ty.ex r0 c62
     have c0 := c0.trans c62.none
     refine w_fall ?_
     refine q_isT (val_var rfl) hxd (va_cons val_c (va_cons val_c (va_cons val_c (va_cons val_c (va_cons val_c (va_cons val_c (va_cons val_c va_nil))))))) (cp_cons (cp_cons (cp_cons (cp_cons (cp_cons (cp_cons (cp_cons .nil))))))) CN.kt_InvalidReport_InvalidShip_7 (Nat.le_of_ble_eq_true rfl) (fun H65 c64 hxd => ?_)
     have r0 := Ty.ex r0 c64
     have c0 := c0.trans c64.none
     refine w_fall ?_
     refine q_isT (val_var rfl) hxd (va_cons val_c (va_cons val_c (va_cons val_c (va_cons val_c (va_cons val_c (va_cons val_c (va_cons val_c (va_cons val_c va_nil)))))))) (cp_cons (cp_cons (cp_cons (cp_cons (cp_cons (cp_cons (cp_cons (cp_cons .nil)))))))) CN.kt_InvalidReport_BadClaim_8 (Nat.le_of_ble_eq_true rfl) (fun H67 c66 hxd => ?_)
     have r0 := Ty.ex r0 c66
     have c0 := c0.trans c66.none
     refine w_fall ?_
     refine q_if (ans_N (ans_B (val_isi (val_xf (val_var rfl) hxd) ty_str (n := "str") (m := "str") (b := true) (by decide +kernel)))) (fun hb => ?_) (fun hb => ?_)
     ·
       replace hm := Mi.ifT hb hm
       refine q_ret ?_
       refine c_val (val_cS (a := ([97, 110, 111, 116, 104, 101, 114] : List Nat)) (by decide +kernel)) ?_
       obtain rfl := Option.some.inj hm
       exact hQ _ _ c0 (opt_i nn_str yStr_i) 
     replace hm := Mi.ifF hb hm
     refine w_fall ?_
     refine q_ret ?_
     refine c_val (val_xf (val_var rfl) hxd) ?_
     obtain rfl := Option.some.inj hm
     exact hQ _ _ c0 (opt_i nn_str yStr_i) 
   subst hqv56
   replace hm := Mi.tryR hm
   have r0 := Ty.chg r0 c48 d42
   have c0 := c0.join c48 (fun a h => .inr (n44 a h))
   refine w_fall ?_
   refine q_ret ?_
   refine c_val val_c ?_
   obtain rfl := Option.some.inj hm
   exact hQ _ _ c0 opt_n 
abbrev s_l_by_base : Stmt := topS 46
theorem sc_l_by_base : FnScope ["_law_parts", "_law_form", "e"] ["_law_parts", "_law_form"] (defScope s_l_by_base) := ⟨rfl, rfl, rfl, by decide +kernel, rfl, by decide +kernel, by decide +kernel⟩
def sp_l_by_base (K : PySem.W.Frag) : Sp := fun vs H Q _ => ∃ (v0 : V) (F0 : List Addr) (d0 : (List (Int ⊕ (List Int)))) (d1 : Int) (r : Bool), vs = [v0, (.int d1)] ∧ (yLst (ySum yInt (yFl yInt))).rep K H F0 v0 d0 ∧ Mi.m_l_by_base d0 d1 = some r ∧ ∀ H', Chg ([]) H H' → Q (.bl r) H'
theorem ok_l_by_base (B : Bi mg) (CN : Cs K mg) (D : Dfn K mg "_law_by_base" s_l_by_base) {C_Report : Addr} (T_Report : Tx K mg C_Report "Report" nm_Report) (I_ReportX : CalIX P w K mg C_Report "Report.__init__" s_Report_init_x (kw_Report K) ["self", "ship", "hour", "zone", "weight", "inside"] 2 (sp_Report_init_x K C_Report)) (C_l_handed : Cal P w K mg "_law_handed" ["_law_zone", "_law_form"] 1 (sp_l_handed K)) : Cal P w K mg "_law_by_base" ["_law_parts", "_law_form"] 4 (sp_l_by_base K) := by
 obtain ⟨f, fd, F, g⟩ := D.ex
 refine ⟨f, fd, g, F.kp, bindsF F (fun _ _ _ _ _ _ us hl => match us, hl with | [_, _], _ => rfl), fun base => F.ok sc_l_by_base (fun vs H Q E h => ?_) (fun cdv A outer s H0 vs Q E hr h => ?_)⟩
 · obtain ⟨v0, F0, d0, d1, r, rfl, r0, hm, hQ⟩ := h; rfl
 ·
   obtain ⟨v0, F0, d0, d1, r, rfl, r0, hm, hQ⟩ := h
   obtain ⟨fI_ReportX, fdI_ReportX, MI_ReportX, FI_ReportX, OI_ReportX⟩ := I_ReportX.ex
   obtain ⟨mv_kb_ReportX_3_weight, kb_ReportX_3_weight⟩ := FunD.kbinds0 (ps := ["self", "ship", "hour", "zone", "weight", "inside"]) FI_ReportX 4 ["weight"] [("inside", .bl true)] (fun us mv ws => permG [0, 1, 2, 3, 5, 4] us mv ws) (by intro z; cases z) (fun q hq => by simp only [List.mem_cons, List.not_mem_nil, or_false] at hq ⊢; rcases hq with rfl <;> simp) (fun r1 r2 r3 => permG_rel _ r1 r2 r3) (fun _ _ _ _ _ _ us mv ws h1 h2 h3 => match us, mv, ws, h1, h2, h3 with | [_, _, _, _], [_], [_], _, _, _ => ⟨_, _, _, _, _, _, rfl, rfl, rfl⟩)
   refine ⟨_, pss_cons (ps_try_as (i := 2) rfl rfl sc_l_by_base.nd rfl rfl ⟨rfl, by decide, .inl CN.g_FleetError⟩ take0 (fun W pn xe tk _ => pss_cons (ps_expr (pe_makeKS MI_ReportX (OI_ReportX base) (hr.mono (by decide)) (by rfl) T_Report.mgC kb_ReportX_3_weight (fun σ => passAt tk σ) (pa_cons (pe_ix (ix_l (K := K)) (pv 0) pe_int (fun _ _ => rfl)) (pa_cons (pe_ix (ix_l (K := K)) (pv 0) pe_int (fun _ _ => rfl)) (pa_cons (pe_cc C_l_handed hr (pa_cons (pe_ix (ix_l (K := K)) (pv 0) pe_int (fun _ _ => rfl)) (pa_cons (pv 1) pa_nil))) pa_nil))) (pk_cons (pe_ix (ix_l (K := K)) (pv 0) pe_int (fun _ _ => rfl)) pk_nil))) pss_nil) (fun ae oe cl de pn hz hf => pss_cons (ps_ret (pe_and (pe_callB (call_isEd CN.x_InvalidReport.xi hz hf) (by rfl) B.isinstance (by decide +kernel) (pa_cons (pv 2) (pa_cons (pe_bltn (v := .ty "ValueError") (by rfl) CN.n_ValueError (by decide +kernel) rfl) pa_nil))) (pe_one (pe_callB (call_isEd CN.x_InvalidReport.xi hz hf) (by rfl) B.isinstance (by decide +kernel) (pa_cons (pv 2) (pa_cons (pe_glob (v := .ref (He.ga K "InvalidReport")) (by rfl) CN.g_InvalidReport rfl) pa_nil)))))) pss_nil))
     (pss_cons (ps_ret pe_bl) pss_nil), ?_⟩
   have c0 : Chg ([] : List Addr) H0 H0 := Chg.refl H0
   unfold Mi.m_l_by_base at hm
   refine q_try ?_
   refine q_drop ?_
   refine w_makeKS ?_
   refine w_cons ?_
   obtain ⟨x3, hx3, hm⟩ := Mi.bnd hm
   obtain ⟨u4, r5, ku6⟩ := itm_L r0 hx3
   obtain ⟨x7, hx7, hm⟩ := Mi.bnd hm
   have r8 := sum_L r5 hx7
   obtain ⟨_, rfl⟩ := r8
   refine c_val (ku6 (val_var rfl) val_c) ?_
   refine w_cons ?_
   obtain ⟨x9, hx9, hm⟩ := Mi.bnd hm
   obtain ⟨u10, r11, ku12⟩ := itm_L r0 hx9
   obtain ⟨x13, hx13, hm⟩ := Mi.bnd hm
   have r14 := sum_L r11 hx13
   obtain ⟨_, rfl⟩ := r14
   refine c_val (ku12 (val_var rfl) val_c) ?_
   refine w_cons ?_
   refine w_call ?_
   obtain ⟨x15, hx15, hm⟩ := Mi.bnd hm
   obtain ⟨u16, r17, ku18⟩ := itm_L r0 hx15
   obtain ⟨x19, hx19, hm⟩ := Mi.bnd hm
   have r20 := sum_R r17 hx19
   refine w_args (va_cons (ku18 (val_var rfl) val_c) (va_cons (val_var rfl) va_nil)) ?_
   obtain ⟨q21, hq21, hm⟩ := Mi.bnd hm
   refine Or.inl ⟨u16, x19, d1, q21, rfl, r20, hq21, fun v24 H23 F26 c22 r25 fr27  => ?_⟩
   have d28 : Dj F0 F26 := Ty.fresh r0 fr27
   have n29 : ∀ a ∈ F26, H0 a = none := fun a h => c0.dom a (fr27 a h)
   have r0 := Ty.ex r0 c22
   have c0 := c0.trans c22.none
   refine w_nil ?_
   obtain ⟨x30, hx30, hm⟩ := Mi.bnd hm
   obtain ⟨u31, r32, ku33⟩ := itm_L r0 hx30
   obtain ⟨x34, hx34, hm⟩ := Mi.bnd hm
   have r35 := sum_L r32 hx34
   obtain ⟨_, rfl⟩ := r35
   refine w_args (va_cons (ku33 (val_var rfl) val_c) va_nil) ?_
   refine ⟨rfl, rfl, ?_⟩
   intro p36 dx37 nx38 ndx39 nex40
   have d41 : Dj F0 [p36] := Ty.nin r0 nx38
   have d42 : Dj F26 [p36] := Ty.nin r25 nx38
   have n43 : ∀ a ∈ [p36], H0 a = none := one_fresh (c0.dom p36 nx38)
   obtain ⟨c44, r45⟩ := make_new (K := K) (C := C_Report) nx38 ndx39 nex40
   have r0 := Ty.ex r0 c44
   have r25 := Ty.ex r25 c44
   have c0 := c0.trans c44.none
   obtain ⟨q46, hq46, hm⟩ := Mi.bnd hm
   refine ⟨p36, dx37, x7, x13, v24, F26, q21, x34, true, q46, rfl, r45, r25, d42.symm, hq46, fun y50 yh51 d52 H57 c56 nn53 => ?_, fun q54 hqv55 H48 c47 r49 => ⟨rfl, ?_⟩⟩
   ·
     subst yh51
     replace hm := Mi.tryL hm
     have r0 := Ty.chg r0 c56 d41
     have c0 := c0.join c56 (fun a h => .inr (n43 a h))
     have c58 : Chg [] H57 (upd H57 d52 (.xd [(("part" : Str), (.str (toS y50)))])) := Chg.lay nn53 trivial
     have r0 := Ty.ex r0 c58
     have c0 := c0.trans c58.none
     have hxd : (upd H57 d52 (.xd [(("part" : Str), (.str (toS y50)))])) d52 = some (.xd [(("part" : Str), (.str (toS y50)))]) := upd_same
     refine w_exc CN.em_InvalidReport_FleetError (fun ae59 na60 => ?_)
     refine st_eq (σ' := [some v0, some (.int d1), some (.ref ae59)]) rfl ?_
     refine q_ret ?_
     refine c_val (val_andV (val_isE (val_var rfl) hxd (.ty _) CN.ko_InvalidReport_ValueError) (fun _ => (val_isE (val_var rfl) hxd (.own _) CN.ko_InvalidReport_InvalidReport))) ?_
     obtain rfl := Option.some.inj hm
     exact hQ _ c0 
   subst hqv55
   replace hm := Mi.tryR hm
   have r0 := Ty.chg r0 c47 d41
   have c0 := c0.join c47 (fun a h => .inr (n43 a h))
   refine w_fall ?_
   refine q_ret ?_
   refine c_val val_c ?_
   obtain rfl := Option.some.inj hm
   exact hQ _ c0 
abbrev s_l_keeps : Stmt := topS 47
abbrev N_l_keeps : List Str := ["_law_report", "_law_parts", "_law_says", "_law_place"]
theorem sc_l_keeps : FnScope ["_law_report", "_law_parts", "_law_says", "_law_place"] ["_law_report", "_law_parts", "_law_says"] (defScope s_l_keeps) := ⟨rfl, rfl, rfl, by decide +kernel, rfl, by decide +kernel, by decide +kernel⟩
def sp_l_keeps (K : PySem.W.Frag) (C_Report : Addr) : Sp := fun vs H Q _ => ∃ (v0 : V) (d0 : (Int × Int × (List Int) × Int × Bool)) (v1 : V) (F1 : List Addr) (d1 : (List (Int ⊕ (List Int)))) (d2 : Bool) (r : Bool), vs = [v0, v1, (.bl d2)] ∧ (yObj C_Report nm_Report ty_Report).rep K H [] v0 d0 ∧ (yLst (ySum yInt (yFl yInt))).rep K H F1 v1 d1 ∧ Mi.m_l_keeps d0 d1 d2 = some r ∧ ∀ H', Chg ([]) H H' → Q (.bl r) H'
theorem ok_l_keeps (B : Bi mg) (CN : Cs K mg) (D : Dfn K mg "_law_keeps" s_l_keeps) {C_Report : Addr} (T_Report : Tx K mg C_Report "Report" nm_Report) (C_l_int : Cal P w K mg "_law_int" ["_law_x"] 1 (sp_l_int K)) (C_l_flag : Cal P w K mg "_law_flag" ["_law_told", "_law_due"] 1 (sp_l_flag K)) : Cal P w K mg "_law_keeps" ["_law_report", "_law_parts", "_law_says"] 2 (sp_l_keeps K C_Report) := by
 obtain ⟨f, fd, F, g⟩ := D.ex
 refine ⟨f, fd, g, F.kp, bindsF F (fun _ _ _ _ _ _ us hl => match us, hl with | [_, _, _], _ => rfl), fun base => F.ok sc_l_keeps (fun vs H Q E h => ?_) (fun cdv A outer s H0 vs Q E hr h => ?_)⟩
 · obtain ⟨v0, d0, v1, F1, d1, d2, r, rfl, r0, r1, hm, hQ⟩ := h; rfl
 ·
   obtain ⟨v0, d0, v1, F1, d1, d2, r, rfl, r0, r1, hm, hQ⟩ := h
   refine ⟨_, pss_cons (ps_if (PW.pt (pw_or (pt_not (pt_val (pe_cc C_l_int hr (pa_cons (pe_fldk (K := K) (pv 0) (by rfl)) pa_nil)))) (pw_or (pt_not (pt_val (pe_cc C_l_int hr (pa_cons (pe_fldk (K := K) (pv 0) (by rfl)) pa_nil)))) (pw_or1 (pt_not (pt_val (pe_cc C_l_int hr (pa_cons (pe_fldk (K := K) (pv 0) (by rfl)) pa_nil)))))))) (pss_cons (ps_ret pe_bl) pss_nil) (pss_nil))
     (pss_cons (ps_if (PW.pt (pw_or (pt_not (pt_val (pe_callB (cl_isi (K := K)) (by rfl) B.isinstance (by decide +kernel) (pa_cons (pe_fldk (K := K) (pv 0) (by rfl)) (pa_cons (pe_bltn (v := .ty "tuple") (by rfl) B.tuple (by decide +kernel) rfl) pa_nil))))) (pw_or1 (pt_cmpR op_gt (pe_callB (cl_len (K := K)) (by rfl) B.len PySem.boot_len (pa_cons (pe_lc (own := [("_law_place", 3)]) rfl sc_l_keeps.nd (pi_tup (pe_fldk (K := K) (pv 0) (by rfl))) (blkOk_by (own := [("_law_place", 3)]) (N := N_l_keeps) (sc := defScope s_l_keeps) (by decide +kernel)) (fun _ _ _ _ _ => (pg_name (i := 3) sc_l_keeps.nd rfl (.inl rfl))) (fun _ _ _ _ _ => (pts_one (pt_not (pt_val (pe_cc C_l_int hr (pa_cons (pv 3) pa_nil)))))) (fun _ _ _ _ _ => (pv 3))) pa_nil)) pe_int (nomark _))))) (pss_cons (ps_ret pe_bl) pss_nil) (pss_nil))
     (pss_cons (ps_if (pt_cmpR (op_ne_d hr.units) (pe_tup (pa_cons (pe_fldk (K := K) (pv 0) (by rfl)) (pa_cons (pe_fldk (K := K) (pv 0) (by rfl)) (pa_cons (pe_callTy (cl_list (K := K)) (by rfl) B.list (by decide +kernel) (pa_cons (pe_fldk (K := K) (pv 0) (by rfl)) pa_nil)) pa_nil)))) (pe_tup (pa_cons (pe_ix (ix_l (K := K)) (pv 1) pe_int (fun _ _ => rfl)) (pa_cons (pe_ix (ix_l (K := K)) (pv 1) pe_int (fun _ _ => rfl)) (pa_cons (pe_callB (cl_sortedL (K := K)) (by rfl) B.sorted (by decide +kernel) (pa_cons (pe_ix (ix_l (K := K)) (pv 1) pe_int (fun _ _ => rfl)) pa_nil)) pa_nil)))) (nomark _)) (pss_cons (ps_ret pe_bl) pss_nil) (pss_nil))
     (pss_cons (ps_ret (pe_and (pe_cmpR op_eq (pe_fldk (K := K) (pv 0) (by rfl)) (pe_ix (ix_l (K := K)) (pv 1) pe_int (fun _ _ => rfl)) (nomark _)) (pe_one (pe_cc C_l_flag hr (pa_cons (pe_fldk (K := K) (pv 0) (by rfl)) (pa_cons (pv 2) pa_nil)))))) pss_nil))), ?_⟩
   have c0 : Chg ([] : List Addr) H0 H0 := Chg.refl H0
   unfold Mi.m_l_keeps at hm
   refine q_ifS ?_
   obtain ⟨b4, hb4, hm⟩ := Mi.bnd hm
   refine j_tt b4 (R := fun H' => Chg ([] : List Addr) H0 H' ∧ (yObj C_Report nm_Report ty_Report).rep K H' [] v0 d0 ∧ (yLst (ySum yInt (yFl yInt))).rep K H' F1 v1 d1) (fun Q' kq => ?_) (fun H' hj => ?_)
   ·
     refine w_or ?_
     refine w_not ?_
     refine w_B ?_
     refine w_call ?_
     obtain ⟨u5, r6, kx7, ku8⟩ := fld_obj (n := 0) (f := "ship") at0 (by decide +kernel) rfl T_Report.cls (T_Report.na "ship" (by decide +kernel)) r0
     obtain ⟨_, rfl⟩ := r6
     refine w_args (va_cons (ku8 (val_var rfl)) va_nil) ?_
     obtain ⟨q9, hq9, hb4⟩ := Mi.bnd hb4
     refine Or.inl ⟨d0.1, q9, rfl, hq9, fun H11 c10  => ?_⟩
     have r0 := Ty.fz r0 c10
     have r1 := Ty.ex r1 c10
     have c0 := c0.trans c10.none
     refine ⟨_, rfl, ?_⟩
     refine c_if (fun hb => ?_) (fun hb => ?_)
     ·
       replace hb4 := Mi.ifT hb hb4
       obtain rfl := Option.some.inj hb4
       exact kq _ ⟨c0, r0, r1⟩
     replace hb4 := Mi.ifF hb hb4
     refine w_or ?_
     refine w_not ?_
     refine w_B ?_
     refine w_call ?_
     obtain ⟨u12, r13, kx14, ku15⟩ := fld_obj (n := 1) (f := "hour") (atS at0) (by decide +kernel) rfl T_Report.cls (T_Report.na "hour" (by decide +kernel)) r0
     obtain ⟨_, rfl⟩ := r13
     refine w_args (va_cons (ku15 (val_var rfl)) va_nil) ?_
     obtain ⟨q16, hq16, hb4⟩ := Mi.bnd hb4
     refine Or.inl ⟨d0.2.1, q16, rfl, hq16, fun H18 c17  => ?_⟩
     have r0 := Ty.fz r0 c17
     have r1 := Ty.ex r1 c17
     have c0 := c0.trans c17.none
     refine ⟨_, rfl, ?_⟩
     refine c_if (fun hb => ?_) (fun hb => ?_)
     ·
       replace hb4 := Mi.ifT hb hb4
       obtain rfl := Option.some.inj hb4
       exact kq _ ⟨c0, r0, r1⟩
     replace hb4 := Mi.ifF hb hb4
     refine w_not ?_
     refine w_B ?_
     refine w_call ?_
     obtain ⟨u19, r20, kx21, ku22⟩ := fld_obj (n := 3) (f := "weight") (atS (atS (atS at0))) (by decide +kernel) rfl T_Report.cls (T_Report.na "weight" (by decide +kernel)) r0
     obtain ⟨_, rfl⟩ := r20
     refine w_args (va_cons (ku22 (val_var rfl)) va_nil) ?_
     obtain ⟨q23, hq23, hb4⟩ := Mi.bnd hb4
     refine Or.inl ⟨d0.2.2.2.1, q23, rfl, hq23, fun H25 c24  => ?_⟩
     have r0 := Ty.fz r0 c24
     have r1 := Ty.ex r1 c24
     have c0 := c0.trans c24.none
     refine ⟨_, rfl, ?_⟩
     obtain rfl := Option.some.inj hb4
     exact kq _ ⟨c0, r0, r1⟩
   obtain ⟨c0, r0, r1⟩ := hj
   refine c_if (fun hb => ?_) (fun hb => ?_)
   ·
     replace hm := Mi.ifT hb hm
     refine q_ret ?_
     refine c_val val_c ?_
     obtain rfl := Option.some.inj hm
     exact hQ _ c0 
   replace hm := Mi.ifF hb hm
   refine w_fall ?_
   refine q_ifS ?_
   obtain ⟨b26, hb26, hm⟩ := Mi.bnd hm
   refine j_tt b26 (R := fun H' => Chg ([] : List Addr) H0 H' ∧ (yObj C_Report nm_Report ty_Report).rep K H' [] v0 d0 ∧ (yLst (ySum yInt (yFl yInt))).rep K H' F1 v1 d1) (fun Q' kq => ?_) (fun H' hj => ?_)
   ·
     refine w_or ?_
     obtain ⟨u27, r28, kx29, ku30⟩ := fld_obj (n := 2) (f := "zone") (atS (atS at0)) (by decide +kernel) rfl T_Report.cls (T_Report.na "zone" (by decide +kernel)) r0
     refine c_ans (ans_N (ans_B (val_isi (ku30 (val_var rfl)) (ty_tupl r28) (n := "tuple") (m := "tuple") (b := true) (by decide +kernel)))) ?_
     refine c_if (fun hb => ?_) (fun hb => ?_)
     ·
       replace hb26 := Mi.ifT hb hb26
       obtain rfl := Option.some.inj hb26
       exact kq _ ⟨c0, r0, r1⟩
     replace hb26 := Mi.ifF hb hb26
     refine w_test ?_
     refine w_op ?_
     refine w_cb ?_
     refine w_cons ?_
     refine w_lc ?_
     refine w_iTup ?_
     obtain ⟨u31, r32, kx33, ku34⟩ := fld_obj (n := 2) (f := "zone") (atS (atS at0)) (by decide +kernel) rfl T_Report.cls (T_Report.na "zone" (by decide +kernel)) r0
     refine c_val (ku34 (val_var rfl)) ?_
     obtain ⟨e35, he35, hb26⟩ := Mi.bnd hb26
     refine kc_tup (K := K) (τ := yInt) r32 (fun D37 i H' => ∃ (s36 : (List Int)), Chg ([] : List Addr) H0 H' ∧ (yObj C_Report nm_Report ty_Report).rep K H' [] v0 d0 ∧ (yLst (ySum yInt (yFl yInt))).rep K H' F1 v1 d1 ∧ (yTupL yInt).rep K H' [] u31 d0.2.2.1 ∧ (yLst yInt).rep K H' [D37] (.ref D37) s36 ∧ Dj F1 [D37] ∧ (∀ a ∈ [D37], H0 a = none) ∧ Mi.forN (Mi.m_l_keeps_b1) s36 (List.drop i d0.2.2.1) = some e35) (fun D37 H44 np43 c42 r38 => ⟨([] : (List Int)), c0.trans c42.none, (Ty.fz r0 c42), (Ty.ex r1 c42), (Ty.fz r32 c42), r38, Ty.nin r1 np43, one_fresh (c0.dom D37 np43), he35⟩) (fun D37 i H' hp => by obtain ⟨s36, c0, r0, r1, r32, r38, d39, n41, _⟩ := hp; exact r32) (fun D37 i47 x46 u49 H48 hx45 r50 hp => ?_) (fun D37 H' np43 hp => ?_)
     ·
       obtain ⟨s36, c0, r0, r1, r32, r38, d39, n41, hle35⟩ := hp
       obtain ⟨_, hbe35, hle35⟩ := Mi.forN_go hle35 hx45
       unfold Mi.m_l_keeps_b1 at hbe35
       obtain ⟨_, rfl⟩ := r50
       refine g_name (σ' := [some v0, some v1, some (.bl d2), some (.int x46)]) rfl ?_
       refine ⟨rfl, ?_⟩
       refine w_not ?_
       refine w_B ?_
       refine w_call ?_
       refine w_args (va_cons (val_var rfl) va_nil) ?_
       obtain ⟨q55, hq55, hbe35⟩ := Mi.bnd hbe35
       refine Or.inl ⟨x46, q55, rfl, hq55, fun H57 c56  => ?_⟩
       have r0 := Ty.fz r0 c56
       have r1 := Ty.ex r1 c56
       have r32 := Ty.fz r32 c56
       have r38 := Ty.ex r38 c56
       have c0 := c0.trans c56.none
       refine ⟨_, rfl, ?_⟩
       refine c_if (fun hb => ?_) (fun hb => ?_)
       ·
         replace hbe35 := Mi.ifT hb hbe35
         refine c_val (val_var rfl) ?_
         obtain ⟨x58, hx58, hbe35⟩ := Mi.bnd hbe35
         refine e_app r38 yInt_i hx58 fun H60 c59 r38 => ?_
         have r0 := Ty.fz r0 c59
         have r1 := Ty.chg r1 c59 d39
         have r32 := Ty.fz r32 c59
         have c0 := c0.join c59 (fun a h => .inr (n41 a h))
         obtain rfl := Option.some.inj hbe35
         exact ⟨x58, c0, r0, r1, r32, r38, d39, n41, hle35⟩
       ·
         replace hbe35 := Mi.ifF hb hbe35
         obtain rfl := Option.some.inj hbe35
         exact ⟨s36, c0, r0, r1, r32, r38, d39, n41, hle35⟩
     obtain ⟨s36, c0, r0, r1, r32, r38, d39, n41, hle35⟩ := hp
     obtain rfl := Mi.forN_end hle35
     refine w_nil ?_
     refine w_lenL r38 ?_
     refine c_val val_c ?_
     refine w_I0 ?_
     refine ⟨_, rfl, ?_⟩
     obtain rfl := Option.some.inj hb26
     exact kq _ ⟨c0, r0, r1⟩
   obtain ⟨c0, r0, r1⟩ := hj
   refine c_if (fun hb => ?_) (fun hb => ?_)
   ·
     replace hm := Mi.ifT hb hm
     refine q_ret ?_
     refine c_val val_c ?_
     obtain rfl := Option.some.inj hm
     exact hQ _ c0 
   replace hm := Mi.ifF hb hm
   refine w_fall ?_
   refine q_ifS ?_
   refine w_test ?_
   refine w_op ?_
   refine w_tup ?_
   refine w_cons ?_
   obtain ⟨u61, r62, kx63, ku64⟩ := fld_obj (n := 0) (f := "ship") at0 (by decide +kernel) rfl T_Report.cls (T_Report.na "ship" (by decide +kernel)) r0
   obtain ⟨_, rfl⟩ := r62
   refine c_val (ku64 (val_var rfl)) ?_
   refine w_cons ?_
   obtain ⟨u65, r66, kx67, ku68⟩ := fld_obj (n := 1) (f := "hour") (atS at0) (by decide +kernel) rfl T_Report.cls (T_Report.na "hour" (by decide +kernel)) r0
   obtain ⟨_, rfl⟩ := r66
   refine c_val (ku68 (val_var rfl)) ?_
   refine w_cons ?_
   refine w_cb ?_
   obtain ⟨u69, r70, kx71, ku72⟩ := fld_obj (n := 2) (f := "zone") (atS (atS at0)) (by decide +kernel) rfl T_Report.cls (T_Report.na "zone" (by decide +kernel)) r0
   refine w_args (va_cons (ku72 (val_var rfl)) va_nil) ?_
   refine w_listT r70 fun p73 H77 np76 c74 r75 => ?_
   have d78 : Dj F1 [p73] := Ty.nin r1 np76
   have n79 : ∀ a ∈ [p73], H0 a = none := one_fresh (c0.dom p73 np76)
   have r0 := Ty.fz r0 c74
   have r1 := Ty.ex r1 c74
   have r70 := Ty.fz r70 c74
   have c0 := c0.trans c74.none
   refine w_nil ?_
   refine e_tup (K := K) (ty := (sCons yInt (sCons yInt (sOne (yLst yInt))))) (F := ([] ++ ([] ++ [p73]))) (d := (d0.1, d0.2.1, d0.2.2.1)) (by exact Nat.le_of_ble_eq_true rfl) ⟨_, _, _, _, rfl, rfl, yInt_i, ⟨_, _, _, _, rfl, rfl, yInt_i, ⟨_, rfl, r75⟩⟩⟩ fun p80 H84 np83 c81 r82  => ?_
   have r0 := Ty.fz r0 c81
   have r1 := Ty.ex r1 c81
   have r75 := Ty.ex r75 c81
   have c0 := c0.trans c81.none
   have d85 : Dj ([] ++ ([] ++ [p73])) F1 := (Dj.app (Dj.nil) ((Dj.app (Dj.nil) (d78.symm))))
   refine w_tup ?_
   refine w_cons ?_
   obtain ⟨x86, hx86, hm⟩ := Mi.bnd hm
   obtain ⟨u87, r88, ku89⟩ := itm_L r1 hx86
   obtain ⟨x90, hx90, hm⟩ := Mi.bnd hm
   have r91 := sum_L r88 hx90
   obtain ⟨_, rfl⟩ := r91
   refine c_val (ku89 (val_var rfl) val_c) ?_
   refine w_cons ?_
   obtain ⟨x92, hx92, hm⟩ := Mi.bnd hm
   obtain ⟨u93, r94, ku95⟩ := itm_L r1 hx92
   obtain ⟨x96, hx96, hm⟩ := Mi.bnd hm
   have r97 := sum_L r94 hx96
   obtain ⟨_, rfl⟩ := r97
   refine c_val (ku95 (val_var rfl) val_c) ?_
   refine w_cons ?_
   refine w_cb ?_
   obtain ⟨x98, hx98, hm⟩ := Mi.bnd hm
   obtain ⟨u99, r100, ku101⟩ := itm_L r1 hx98
   obtain ⟨x102, hx102, hm⟩ := Mi.bnd hm
   have r103 := sum_R r100 hx102
   refine w_args (va_cons (ku101 (val_var rfl) val_c) va_nil) ?_
   refine w_sortedF r103 fun p104 H108 np107 c105 r106 => ?_
   have d109 : Dj F1 [p104] := Ty.nin r1 np107
   have d110 : Dj ([] ++ ([] ++ [p73])) [p104] := Ty.nin r82 np107
   have n111 : ∀ a ∈ [p104], H0 a = none := one_fresh (c0.dom p104 np107)
   have r0 := Ty.fz r0 c105
   have r1 := Ty.ex r1 c105
   have r82 := Ty.ex r82 c105
   have r103 := Ty.fz r103 c105
   have c0 := c0.trans c105.none
   refine w_nil ?_
   refine e_tup (K := K) (ty := (sCons yInt (sCons yInt (sOne (yLst yInt))))) (F := ([] ++ ([] ++ [p104]))) (d := (x90, x96, (Mi.sortI x102))) (by exact Nat.le_of_ble_eq_true rfl) ⟨_, _, _, _, rfl, rfl, yInt_i, ⟨_, _, _, _, rfl, rfl, yInt_i, ⟨_, rfl, r106⟩⟩⟩ fun p112 H116 np115 c113 r114  => ?_
   have r0 := Ty.fz r0 c113
   have r1 := Ty.ex r1 c113
   have r82 := Ty.ex r82 c113
   have r106 := Ty.ex r106 c113
   have c0 := c0.trans c113.none
   have d117 : Dj ([] ++ ([] ++ [p104])) F1 := (Dj.app (Dj.nil) ((Dj.app (Dj.nil) (d109.symm))))
   have d118 : Dj ([] ++ ([] ++ [p104])) ([] ++ ([] ++ [p73])) := (Dj.app (Dj.nil) ((Dj.app (Dj.nil) (d110.symm))))
   refine w_neD (τ := (yTup (sCons yInt (sCons yInt (sOne (yLst yInt)))))) (dat_tup (sat_cons dat_int (sat_cons dat_int (sat_one (dat_lst dat_int))))) r82 r114 ?_
   refine ⟨_, rfl, ?_⟩
   refine c_if (fun hb => ?_) (fun hb => ?_)
   ·
     replace hm := Mi.ifT hb hm
     refine q_ret ?_
     refine c_val val_c ?_
     obtain rfl := Option.some.inj hm
     exact hQ _ c0 
   replace hm := Mi.ifF hb hm
   refine w_fall ?_
   refine q_ret ?_
   obtain ⟨b119, hb119, hm⟩ := Mi.bnd hm
   refine j_te (.bl b119) (R := fun H' => Chg ([] : List Addr) H0 H' ∧ (yObj C_Report nm_Report ty_Report).rep K H' [] v0 d0 ∧ (yLst (ySum yInt (yFl yInt))).rep K H' F1 v1 d1) (fun Q' kq => ?_) (fun H' hj => ?_)
   ·
     refine w_andV ?_
     obtain ⟨u120, r121, kx122, ku123⟩ := fld_obj (n := 3) (f := "weight") (atS (atS (atS at0))) (by decide +kernel) rfl T_Report.cls (T_Report.na "weight" (by decide +kernel)) r0
     obtain ⟨_, rfl⟩ := r121
     obtain ⟨x124, hx124, hb119⟩ := Mi.bnd hb119
     obtain ⟨u125, r126, ku127⟩ := itm_L r1 hx124
     obtain ⟨x128, hx128, hb119⟩ := Mi.bnd hb119
     have r129 := sum_L r126 hx128
     obtain ⟨_, rfl⟩ := r129
     refine c_val (val_eqI (ku123 (val_var rfl)) (ku127 (val_var rfl) val_c)) ?_
     refine ⟨_, rfl, ?_⟩
     refine c_if (fun hb => ?_) (fun hb => ?_)
     rotate_left
     ·
       replace hb119 := Mi.ifF hb hb119
       obtain rfl := Option.some.inj hb119
       exact kq _ ⟨c0, r0, r1⟩
     replace hb119 := Mi.ifT hb hb119
     refine w_call ?_
     obtain ⟨u130, r131, kx132, ku133⟩ := fld_obj (n := 4) (f := "inside") (atS (atS (atS (atS at1)))) (by decide +kernel) rfl T_Report.cls (T_Report.na "inside" (by decide +kernel)) r0
     obtain ⟨_, rfl⟩ := r131
     refine w_args (va_cons (ku133 (val_var rfl)) (va_cons (val_var rfl) va_nil)) ?_
     obtain ⟨q134, hq134, hb119⟩ := Mi.bnd hb119
     refine ⟨d0.2.2.2.2, d2, q134, rfl, hq134, fun H136 c135  => ?_⟩
     have r0 := Ty.fz r0 c135
     have r1 := Ty.ex r1 c135
     have c0 := c0.trans c135.none
     obtain rfl := Option.some.inj hb119
     exact kq _ ⟨c0, r0, r1⟩
   obtain ⟨c0, r0, r1⟩ := hj
   obtain rfl := Option.some.inj hm
   exact hQ _ c0 
abbrev s_l_made : Stmt := topS 48
theorem sc_l_made : FnScope ["_law_parts", "_law_form", "_law_says", "_law_zone", "_law_rows", "_law_plain"] ["_law_parts", "_law_form", "_law_says"] (defScope s_l_made) := ⟨rfl, rfl, rfl, by decide +kernel, rfl, by decide +kernel, by decide +kernel⟩
def sp_l_made (K : PySem.W.Frag) : Sp := fun vs H Q _ => ∃ (v0 : V) (F0 : List Addr) (d0 : (List (Int ⊕ (List Int)))) (d1 : Int) (d2 : Bool) (r : Bool), vs = [v0, (.int d1), (.bl d2)] ∧ (yLst (ySum yInt (yFl yInt))).rep K H F0 v0 d0 ∧ Mi.m_l_made d0 d1 d2 = some r ∧ ∀ H', Chg ([]) H H' → Q (.bl r) H'
theorem ok_l_made (B : Bi mg) (CN : Cs K mg) (D : Dfn K mg "_law_made" s_l_made) {C_Report : Addr} (T_Report : Tx K mg C_Report "Report" nm_Report) (I_Report : CalI P w K mg C_Report "Report.__init__" s_Report_init (kw_Report K) ["self", "ship", "hour", "zone", "weight", "inside"] 2 (sp_Report_init K C_Report)) (C_l_handed : Cal P w K mg "_law_handed" ["_law_zone", "_law_form"] 1 (sp_l_handed K)) (C_l_keeps : Cal P w K mg "_law_keeps" ["_law_report", "_law_parts", "_law_says"] 2 (sp_l_keeps K C_Report)) : Cal P w K mg "_law_made" ["_law_parts", "_law_form", "_law_says"] 4 (sp_l_made K) := by
 obtain ⟨f, fd, F, g⟩ := D.ex
 refine ⟨f, fd, g, F.kp, bindsF F (fun _ _ _ _ _ _ us hl => match us, hl with | [_, _, _], _ => rfl), fun base => F.ok sc_l_made (fun vs H Q E h => ?_) (fun cdv A outer s H0 vs Q E hr h => ?_)⟩
 · obtain ⟨v0, F0, d0, d1, d2, r, rfl, r0, hm, hQ⟩ := h; rfl
 ·
   obtain ⟨v0, F0, d0, d1, d2, r, rfl, r0, hm, hQ⟩ := h
   obtain ⟨fI_Report, fdI_Report, MI_Report, FI_Report, OI_Report⟩ := I_Report.ex
   obtain ⟨ds_kb_Report_3_, vl_kb_Report_3_, kb_Report_3_⟩ := FunD.binds0 (ps := ["self", "ship", "hour", "zone", "weight", "inside"]) FI_Report 4 (by intro z; cases z) rfl (fun _ _ _ _ _ _ us ks h1 h2 => match us, ks, h1, h2 with | [_, _, _, _], [_, _], _, _ => ⟨_, _, _, _, _, _, rfl, rfl, ⟨_, _, _, _, _, _, rfl, rfl, rfl⟩⟩)
   obtain ⟨mv_kb_Report_3_inside, kb_Report_3_inside⟩ := FunD.kbinds0 (ps := ["self", "ship", "hour", "zone", "weight", "inside"]) FI_Report 4 ["inside"] [("weight", .int 1)] (fun us mv ws => permG [0, 1, 2, 3, 4, 5] us mv ws) (by intro z; cases z) (fun q hq => by simp only [List.mem_cons, List.not_mem_nil, or_false] at hq ⊢; rcases hq with rfl <;> simp) (fun r1 r2 r3 => permG_rel _ r1 r2 r3) (fun _ _ _ _ _ _ us mv ws h1 h2 h3 => match us, mv, ws, h1, h2, h3 with | [_, _, _, _], [_], [_], _, _, _ => ⟨_, _, _, _, _, _, rfl, rfl, rfl⟩)
   obtain ⟨mv_kb_Report_3_weight, kb_Report_3_weight⟩ := FunD.kbinds0 (ps := ["self", "ship", "hour", "zone", "weight", "inside"]) FI_Report 4 ["weight"] [("inside", .bl true)] (fun us mv ws => permG [0, 1, 2, 3, 5, 4] us mv ws) (by intro z; cases z) (fun q hq => by simp only [List.mem_cons, List.not_mem_nil, or_false] at hq ⊢; rcases hq with rfl <;> simp) (fun r1 r2 r3 => permG_rel _ r1 r2 r3) (fun _ _ _ _ _ _ us mv ws h1 h2 h3 => match us, mv, ws, h1, h2, h3 with | [_, _, _, _], [_], [_], _, _, _ => ⟨_, _, _, _, _, _, rfl, rfl, rfl⟩)
   obtain ⟨mv_kb_Report_3_weight_inside, kb_Report_3_weight_inside⟩ := FunD.kbinds0 (ps := ["self", "ship", "hour", "zone", "weight", "inside"]) FI_Report 4 ["weight", "inside"] [] (fun us mv ws => permG [0, 1, 2, 3, 4, 5] us mv ws) (by intro z; cases z) (fun q hq => nomatch hq) (fun r1 r2 r3 => permG_rel _ r1 r2 r3) (fun _ _ _ _ _ _ us mv ws h1 h2 h3 => match us, mv, ws, h1, h2, h3 with | [_, _, _, _], [], [_, _], _, _, _ => rfl)
   refine ⟨_, pss_cons (ps_set (i := 3) sc_l_made.nd rfl (.inl rfl) (pe_callTy (cl_list (K := K)) (by rfl) B.list (by decide +kernel) (pa_cons (pe_ix (ix_l (K := K)) (pv 0) pe_int (fun _ _ => rfl)) pa_nil)))
     (pss_cons (ps_set (i := 4) sc_l_made.nd rfl (.inl rfl) (pe_lst (pa_cons (pe_makeK MI_Report (OI_Report base) (hr.mono (by decide)) (by rfl) T_Report.mgC kb_Report_3_weight_inside pass0 (pa_cons (pe_ix (ix_l (K := K)) (pv 0) pe_int (fun _ _ => rfl)) (pa_cons (pe_ix (ix_l (K := K)) (pv 0) pe_int (fun _ _ => rfl)) (pa_cons (pv 3) pa_nil))) (pk_cons (pe_ix (ix_l (K := K)) (pv 0) pe_int (fun _ _ => rfl)) (pk_cons (pv 2) pk_nil))) pa_nil)))
     (pss_cons (ps_if (PW.pt (pw_or (pt_cmpR (op_ne_d hr.units) (pv 3) (pe_ix (ix_l (K := K)) (pv 0) pe_int (fun _ _ => rfl)) (nomark _)) (pw_or1 (pt_not (pt_val (pe_cc C_l_keeps hr (pa_cons (pe_ix (ix_l (K := K)) (pv 4) pe_int (fun _ _ => rfl)) (pa_cons (pv 0) (pa_cons (pv 2) pa_nil))))))))) (pss_cons (ps_ret pe_bl) pss_nil) (pss_nil))
     (pss_cons (ps_set (i := 5) sc_l_made.nd rfl (.inl rfl) (pe_lst (pa_cons (pe_ix (ix_l (K := K)) (pv 0) pe_int (fun _ _ => rfl)) (pa_cons (pe_ix (ix_l (K := K)) (pv 0) pe_int (fun _ _ => rfl)) (pa_cons (pe_ix (ix_l (K := K)) (pv 0) pe_int (fun _ _ => rfl)) (pa_cons pe_int pa_nil))))))
     (pss_cons (ps_if (pt_not (pt_val (pe_cc C_l_keeps hr (pa_cons (pe_make MI_Report (OI_Report base) (hr.mono (by decide)) (by rfl) T_Report.mgC kb_Report_3_ vl_kb_Report_3_ pass0 (pa_cons (pe_ix (ix_l (K := K)) (pv 0) pe_int (fun _ _ => rfl)) (pa_cons (pe_ix (ix_l (K := K)) (pv 0) pe_int (fun _ _ => rfl)) (pa_cons (pe_cc C_l_handed hr (pa_cons (pv 3) (pa_cons (pv 1) pa_nil))) pa_nil)))) (pa_cons (pv 5) (pa_cons pe_bl pa_nil)))))) (pss_cons (ps_ret pe_bl) pss_nil) (pss_nil))
     (pss_cons (ps_if (pt_not (pt_val (pe_cc C_l_keeps hr (pa_cons (pe_makeK MI_Report (OI_Report base) (hr.mono (by decide)) (by rfl) T_Report.mgC kb_Report_3_inside pass0 (pa_cons (pe_ix (ix_l (K := K)) (pv 0) pe_int (fun _ _ => rfl)) (pa_cons (pe_ix (ix_l (K := K)) (pv 0) pe_int (fun _ _ => rfl)) (pa_cons (pe_cc C_l_handed hr (pa_cons (pv 3) (pa_cons (pv 1) pa_nil))) pa_nil))) (pk_cons (pv 2) pk_nil)) (pa_cons (pv 5) (pa_cons (pv 2) pa_nil)))))) (pss_cons (ps_ret pe_bl) pss_nil) (pss_nil))
     (pss_cons (ps_if (pt_not (pt_val (pe_cc C_l_keeps hr (pa_cons (pe_makeK MI_Report (OI_Report base) (hr.mono (by decide)) (by rfl) T_Report.mgC kb_Report_3_weight pass0 (pa_cons (pe_ix (ix_l (K := K)) (pv 0) pe_int (fun _ _ => rfl)) (pa_cons (pe_ix (ix_l (K := K)) (pv 0) pe_int (fun _ _ => rfl)) (pa_cons (pe_cc C_l_handed hr (pa_cons (pv 3) (pa_cons (pv 1) pa_nil))) pa_nil))) (pk_cons (pe_ix (ix_l (K := K)) (pv 0) pe_int (fun _ _ => rfl)) pk_nil)) (pa_cons (pv 0) (pa_cons pe_bl pa_nil)))))) (pss_cons (ps_ret pe_bl) pss_nil) (pss_nil))
     (pss_cons (ps_expr (pe_bm PySem.F.plainAttrs_list PySem.F.slot_list_append PySem.F.type_list_append mt_append (pv 3) (pa_cons pe_int pa_nil)))
     (pss_cons (ps_expr (pe_bm PySem.F.plainAttrs_list PySem.F.slot_list_append PySem.F.type_list_append mt_append (pv 3) (pa_cons pe_int pa_nil)))
     (pss_cons (ps_ret (pe_cc C_l_keeps hr (pa_cons (pe_ix (ix_l (K := K)) (pv 4) pe_int (fun _ _ => rfl)) (pa_cons (pv 0) (pa_cons (pv 2) pa_nil))))) pss_nil))))))))), ?_⟩
   have c0 : Chg ([] : List Addr) H0 H0 := Chg.refl H0
   unfold Mi.m_l_made at hm
   refine q_asg ?_
   refine w_cb ?_
   obtain ⟨x4, hx4, hm⟩ := Mi.bnd hm
   obtain ⟨u5, r6, ku7⟩ := itm_L r0 hx4
   obtain ⟨x8, hx8, hm⟩ := Mi.bnd hm
   have r9 := sum_R r6 hx8
   refine w_args (va_cons (ku7 (val_var rfl) val_c) va_nil) ?_
   refine w_listF r9 fun p10 H14 np13 c11 r12 => ?_
   have d15 : Dj F0 [p10] := Ty.nin r0 np13
   have n16 : ∀ a ∈ [p10], H0 a = none := one_fresh (c0.dom p10 np13)
   have r0 := Ty.ex r0 c11
   have r9 := Ty.fz r9 c11
   have c0 := c0.trans c11.none
   refine g_name (σ' := [some v0, some (.int d1), some (.bl d2), some (.ref p10), none, none]) rfl ?_
   refine q_asg ?_
   refine w_lst ?_
   refine w_cons ?_
   refine w_makeK ?_
   obtain ⟨x17, hx17, hm⟩ := Mi.bnd hm
   obtain ⟨u18, r19, ku20⟩ := itm_L r0 hx17
   obtain ⟨x21, hx21, hm⟩ := Mi.bnd hm
   have r22 := sum_L r19 hx21
   obtain ⟨_, rfl⟩ := r22
   obtain ⟨x23, hx23, hm⟩ := Mi.bnd hm
   obtain ⟨u24, r25, ku26⟩ := itm_L r0 hx23
   obtain ⟨x27, hx27, hm⟩ := Mi.bnd hm
   have r28 := sum_L r25 hx27
   obtain ⟨_, rfl⟩ := r28
   refine w_args (va_cons (ku20 (val_var rfl) val_c) (va_cons (ku26 (val_var rfl) val_c) (va_cons (val_var rfl) va_nil))) ?_
   obtain ⟨x29, hx29, hm⟩ := Mi.bnd hm
   obtain ⟨u30, r31, ku32⟩ := itm_L r0 hx29
   obtain ⟨x33, hx33, hm⟩ := Mi.bnd hm
   have r34 := sum_L r31 hx33
   obtain ⟨_, rfl⟩ := r34
   refine w_args (va_cons (ku32 (val_var rfl) val_c) (va_cons (val_var rfl) va_nil)) ?_
   refine ⟨rfl, rfl, ?_⟩
   intro p35 dx36 nx37 ndx38 nex39
   have d40 : Dj F0 [p35] := Ty.nin r0 nx37
   have d41 : Dj [p10] [p35] := Ty.nin r12 nx37
   have n42 : ∀ a ∈ [p35], H0 a = none := one_fresh (c0.dom p35 nx37)
   obtain ⟨c43, r44⟩ := make_new (K := K) (C := C_Report) nx37 ndx38 nex39
   have r0 := Ty.ex r0 c43
   have r12 := Ty.ex r12 c43
   have c0 := c0.trans c43.none
   obtain ⟨q45, hq45, hm⟩ := Mi.bnd hm
   refine ⟨p35, dx36, x21, x27, (.ref p10), [p10], (.inl x8), x33, d2, q45, rfl, r44, (sum_l r12), d41.symm, hq45, fun H47 c46 r48 => ⟨rfl, ?_⟩⟩
   have r0 := Ty.chg r0 c46 d40
   have r12 := Ty.chg r12 c46 d41
   have c0 := c0.join c46 (fun a h => .inr (n42 a h))
   refine w_nil ?_
   refine e_lst (K := K) (τ := (yObj C_Report nm_Report ty_Report)) (by exact Nat.le_of_ble_eq_true rfl) (.cons r48 .nil) fun p49 H53 np52 c50 r51 => ?_
   have d54 : Dj F0 [p49] := Ty.nin r0 np52
   have d55 : Dj [p10] [p49] := Ty.nin r12 np52
   have n56 : ∀ a ∈ [p49], H0 a = none := one_fresh (c0.dom p49 np52)
   have r0 := Ty.ex r0 c50
   have r12 := Ty.ex r12 c50
   have r48 := Ty.fz r48 c50
   have c0 := c0.trans c50.none
   refine g_name (σ' := [some v0, some (.int d1), some (.bl d2), some (.ref p10), some (.ref p49), none]) rfl ?_
   refine q_ifS ?_
   obtain ⟨b57, hb57, hm⟩ := Mi.bnd hm
   refine j_tt b57 (R := fun H' => Chg ([] : List Addr) H0 H' ∧ (yLst (ySum yInt (yFl yInt))).rep K H' F0 v0 d0 ∧ (yLst yInt).rep K H' [p10] (.ref p10) x8 ∧ (yLst (yObj C_Report nm_Report ty_Report)).rep K H' [p49] (.ref p49) [q45]) (fun Q' kq => ?_) (fun H' hj => ?_)
   ·
     refine w_or ?_
     refine w_test ?_
     refine w_op ?_
     refine c_val (val_var rfl) ?_
     obtain ⟨x58, hx58, hb57⟩ := Mi.bnd hb57
     obtain ⟨u59, r60, ku61⟩ := itm_L r0 hx58
     obtain ⟨x62, hx62, hb57⟩ := Mi.bnd hb57
     have r63 := sum_R r60 hx62
     refine c_val (ku61 (val_var rfl) val_c) ?_
     refine w_neD2 (dat_lst dat_int) (dat_fl dat_int) (fun _ => rfl) r12 r63 ?_
     refine ⟨_, rfl, ?_⟩
     refine c_if (fun hb => ?_) (fun hb => ?_)
     ·
       replace hb57 := Mi.ifT hb hb57
       obtain rfl := Option.some.inj hb57
       exact kq _ ⟨c0, r0, r12, r51⟩
     replace hb57 := Mi.ifF hb hb57
     refine w_not ?_
     refine w_B ?_
     refine w_call ?_
     obtain ⟨x64, hx64, hb57⟩ := Mi.bnd hb57
     obtain ⟨u65, r66, ku67⟩ := itm_L r51 hx64
     refine w_args (va_cons (ku67 (val_var rfl) val_c) (va_cons (val_var rfl) (va_cons (val_var rfl) va_nil))) ?_
     obtain ⟨q68, hq68, hb57⟩ := Mi.bnd hb57
     refine ⟨u65, x64, v0, F0, d0, d2, q68, rfl, r66, r0, hq68, fun H70 c69  => ?_⟩
     have r0 := Ty.ex r0 c69
     have r12 := Ty.ex r12 c69
     have r51 := Ty.ex r51 c69
     have c0 := c0.trans c69.none
     refine ⟨_, rfl, ?_⟩
     obtain rfl := Option.some.inj hb57
     exact kq _ ⟨c0, r0, r12, r51⟩
   obtain ⟨c0, r0, r12, r51⟩ := hj
   refine c_if (fun hb => ?_) (fun hb => ?_)
   ·
     replace hm := Mi.ifT hb hm
     refine q_ret ?_
     refine c_val val_c ?_
     obtain rfl := Option.some.inj hm
     exact hQ _ c0 
   replace hm := Mi.ifF hb hm
   refine w_fall ?_
   refine q_asg ?_
   refine w_lst ?_
   obtain ⟨x71, hx71, hm⟩ := Mi.bnd hm
   obtain ⟨u72, r73, ku74⟩ := itm_L r0 hx71
   obtain ⟨x75, hx75, hm⟩ := Mi.bnd hm
   have r76 := sum_L r73 hx75
   obtain ⟨_, rfl⟩ := r76
   obtain ⟨x77, hx77, hm⟩ := Mi.bnd hm
   obtain ⟨u78, r79, ku80⟩ := itm_L r0 hx77
   obtain ⟨x81, hx81, hm⟩ := Mi.bnd hm
   have r82 := sum_L r79 hx81
   obtain ⟨_, rfl⟩ := r82
   obtain ⟨x83, hx83, hm⟩ := Mi.bnd hm
   obtain ⟨u84, r85, ku86⟩ := itm_L r0 hx83
   obtain ⟨x87, hx87, hm⟩ := Mi.bnd hm
   have r88 := sum_R r85 hx87
   refine w_args (va_cons (ku74 (val_var rfl) val_c) (va_cons (ku80 (val_var rfl) val_c) (va_cons (ku86 (val_var rfl) val_c) (va_cons val_c va_nil)))) ?_
   refine e_lst (K := K) (τ := (ySum yInt (yFl yInt))) (by exact Nat.le_of_ble_eq_true rfl) (.cons (sum_l yInt_i) (.cons (sum_l yInt_i) (.cons (sum_r r88) (.cons (sum_l yInt_i) .nil)))) fun p89 H93 np92 c90 r91 => ?_
   have d94 : Dj F0 [p89] := Ty.nin r0 np92
   have d95 : Dj [p10] [p89] := Ty.nin r12 np92
   have d96 : Dj [p49] [p89] := Ty.nin r51 np92
   have n97 : ∀ a ∈ [p89], H0 a = none := one_fresh (c0.dom p89 np92)
   have r0 := Ty.ex r0 c90
   have r12 := Ty.ex r12 c90
   have r51 := Ty.ex r51 c90
   have r88 := Ty.fz r88 c90
   have c0 := c0.trans c90.none
   refine g_name (σ' := [some v0, some (.int d1), some (.bl d2), some (.ref p10), some (.ref p49), some (.ref p89)]) rfl ?_
   refine q_ifS ?_
   refine w_not ?_
   refine w_B ?_
   refine w_call ?_
   refine w_cons ?_
   refine w_mk ?_
   refine w_cons ?_
   obtain ⟨x98, hx98, hm⟩ := Mi.bnd hm
   obtain ⟨u99, r100, ku101⟩ := itm_L r0 hx98
   obtain ⟨x102, hx102, hm⟩ := Mi.bnd hm
   have r103 := sum_L r100 hx102
   obtain ⟨_, rfl⟩ := r103
   refine c_val (ku101 (val_var rfl) val_c) ?_
   refine w_cons ?_
   obtain ⟨x104, hx104, hm⟩ := Mi.bnd hm
   obtain ⟨u105, r106, ku107⟩ := itm_L r0 hx104
   obtain ⟨x108, hx108, hm⟩ := Mi.bnd hm
   have r109 := sum_L r106 hx108
   obtain ⟨_, rfl⟩ := r109
   refine c_val (ku107 (val_var rfl) val_c) ?_
   refine w_cons ?_
   refine w_call ?_
   refine w_args (va_cons (val_var rfl) (va_cons (val_var rfl) va_nil)) ?_
   obtain ⟨q110, hq110, hm⟩ := Mi.bnd hm
   refine Or.inr (⟨(.ref p10), [p10], x8, d1, q110, rfl, r12, hq110, fun v113 H112 F115 c111 r114 fr116  => ?_⟩)
   have d117 : Dj F0 F115 := Ty.fresh r0 fr116
   have d118 : Dj [p10] F115 := Ty.fresh r12 fr116
   have d119 : Dj [p49] F115 := Ty.fresh r51 fr116
   have d120 : Dj [p89] F115 := Ty.fresh r91 fr116
   have n121 : ∀ a ∈ F115, H0 a = none := fun a h => c0.dom a (fr116 a h)
   have r0 := Ty.ex r0 c111
   have r12 := Ty.ex r12 c111
   have r51 := Ty.ex r51 c111
   have r91 := Ty.ex r91 c111
   have c0 := c0.trans c111.none
   refine w_nil ?_
   intro p122 dx123 nx124 ndx125 nex126
   have d127 : Dj F0 [p122] := Ty.nin r0 nx124
   have d128 : Dj [p10] [p122] := Ty.nin r12 nx124
   have d129 : Dj [p49] [p122] := Ty.nin r51 nx124
   have d130 : Dj [p89] [p122] := Ty.nin r91 nx124
   have d131 : Dj F115 [p122] := Ty.nin r114 nx124
   have n132 : ∀ a ∈ [p122], H0 a = none := one_fresh (c0.dom p122 nx124)
   obtain ⟨c133, r134⟩ := make_new (K := K) (C := C_Report) nx124 ndx125 nex126
   have r0 := Ty.ex r0 c133
   have r12 := Ty.ex r12 c133
   have r51 := Ty.ex r51 c133
   have r91 := Ty.ex r91 c133
   have r114 := Ty.ex r114 c133
   have c0 := c0.trans c133.none
   obtain ⟨q135, hq135, hm⟩ := Mi.bnd hm
   refine ⟨p122, dx123, x102, x108, v113, F115, q110, (1 : Int), true, q135, rfl, r134, r114, d131.symm, hq135, fun H137 c136 r138 => ⟨rfl, ?_⟩⟩
   have r0 := Ty.chg r0 c136 d127
   have r12 := Ty.chg r12 c136 d128
   have r51 := Ty.chg r51 c136 d129
   have r91 := Ty.chg r91 c136 d130
   have c0 := c0.join c136 (fun a h => .inr (n132 a h))
   refine w_cons ?_
   refine c_val (val_var rfl) ?_
   refine w_cons ?_
   refine c_val val_c ?_
   refine w_nil ?_
   obtain ⟨q139, hq139, hm⟩ := Mi.bnd hm
   refine ⟨(.ref p122), q135, (.ref p89), [p89], [(.inl x75), (.inl x81), (.inr x87), (.inl (1 : Int))], true, q139, rfl, r138, r91, hq139, fun H141 c140  => ?_⟩
   have r0 := Ty.ex r0 c140
   have r12 := Ty.ex r12 c140
   have r51 := Ty.ex r51 c140
   have r91 := Ty.ex r91 c140
   have c0 := c0.trans c140.none
   refine ⟨_, rfl, ?_⟩
   refine c_if (fun hb => ?_) (fun hb => ?_)
   ·
     replace hm := Mi.ifT hb hm
     refine q_ret ?_
     refine c_val val_c ?_
     obtain rfl := Option.some.inj hm
     exact hQ _ c0 
   replace hm := Mi.ifF hb hm
   refine w_fall ?_
   refine q_ifS ?_
   refine w_not ?_
   refine w_B ?_
   refine w_call ?_
   refine w_cons ?_
   refine w_makeK ?_
   refine w_cons ?_
   obtain ⟨x142, hx142, hm⟩ := Mi.bnd hm
   obtain ⟨u143, r144, ku145⟩ := itm_L r0 hx142
   obtain ⟨x146, hx146, hm⟩ := Mi.bnd hm
   have r147 := sum_L r144 hx146
   obtain ⟨_, rfl⟩ := r147
   refine c_val (ku145 (val_var rfl) val_c) ?_
   refine w_cons ?_
   obtain ⟨x148, hx148, hm⟩ := Mi.bnd hm
   obtain ⟨u149, r150, ku151⟩ := itm_L r0 hx148
   obtain ⟨x152, hx152, hm⟩ := Mi.bnd hm
   have r153 := sum_L r150 hx152
   obtain ⟨_, rfl⟩ := r153
   refine c_val (ku151 (val_var rfl) val_c) ?_
   refine w_cons ?_
   refine w_call ?_
   refine w_args (va_cons (val_var rfl) (va_cons (val_var rfl) va_nil)) ?_
   obtain ⟨q154, hq154, hm⟩ := Mi.bnd hm
   refine Or.inr (⟨(.ref p10), [p10], x8, d1, q154, rfl, r12, hq154, fun v157 H156 F159 c155 r158 fr160  => ?_⟩)
   have d161 : Dj F0 F159 := Ty.fresh r0 fr160
   have d162 : Dj [p10] F159 := Ty.fresh r12 fr160
   have d163 : Dj [p49] F159 := Ty.fresh r51 fr160
   have d164 : Dj [p89] F159 := Ty.fresh r91 fr160
   have n165 : ∀ a ∈ F159, H0 a = none := fun a h => c0.dom a (fr160 a h)
   have r0 := Ty.ex r0 c155
   have r12 := Ty.ex r12 c155
   have r51 := Ty.ex r51 c155
   have r91 := Ty.ex r91 c155
   have c0 := c0.trans c155.none
   refine w_nil ?_
   refine w_args (va_cons (val_var rfl) va_nil) ?_
   refine ⟨rfl, rfl, ?_⟩
   intro p166 dx167 nx168 ndx169 nex170
   have d171 : Dj F0 [p166] := Ty.nin r0 nx168
   have d172 : Dj [p10] [p166] := Ty.nin r12 nx168
   have d173 : Dj [p49] [p166] := Ty.nin r51 nx168
   have d174 : Dj [p89] [p166] := Ty.nin r91 nx168
   have d175 : Dj F159 [p166] := Ty.nin r158 nx168
   have n176 : ∀ a ∈ [p166], H0 a = none := one_fresh (c0.dom p166 nx168)
   obtain ⟨c177, r178⟩ := make_new (K := K) (C := C_Report) nx168 ndx169 nex170
   have r0 := Ty.ex r0 c177
   have r12 := Ty.ex r12 c177
   have r51 := Ty.ex r51 c177
   have r91 := Ty.ex r91 c177
   have r158 := Ty.ex r158 c177
   have c0 := c0.trans c177.none
   obtain ⟨q179, hq179, hm⟩ := Mi.bnd hm
   refine ⟨p166, dx167, x146, x152, v157, F159, q154, (1 : Int), d2, q179, rfl, r178, r158, d175.symm, hq179, fun H181 c180 r182 => ⟨rfl, ?_⟩⟩
   have r0 := Ty.chg r0 c180 d171
   have r12 := Ty.chg r12 c180 d172
   have r51 := Ty.chg r51 c180 d173
   have r91 := Ty.chg r91 c180 d174
   have c0 := c0.join c180 (fun a h => .inr (n176 a h))
   refine w_cons ?_
   refine c_val (val_var rfl) ?_
   refine w_cons ?_
   refine c_val (val_var rfl) ?_
   refine w_nil ?_
   obtain ⟨q183, hq183, hm⟩ := Mi.bnd hm
   refine ⟨(.ref p166), q179, (.ref p89), [p89], [(.inl x75), (.inl x81), (.inr x87), (.inl (1 : Int))], d2, q183, rfl, r182, r91, hq183, fun H185 c184  => ?_⟩
   have r0 := Ty.ex r0 c184
   have r12 := Ty.ex r12 c184
   have r51 := Ty.ex r51 c184
   have r91 := Ty.ex r91 c184
   have c0 := c0.trans c184.none
   refine ⟨_, rfl, ?_⟩
   refine c_if (fun hb => ?_) (fun hb => ?_)
   ·
     replace hm := Mi.ifT hb hm
     refine q_ret ?_
     refine c_val val_c ?_
     obtain rfl := Option.some.inj hm
     exact hQ _ c0 
   replace hm := Mi.ifF hb hm
   refine w_fall ?_
   refine q_ifS ?_
   refine w_not ?_
   refine w_B ?_
   refine w_call ?_
   refine w_cons ?_
   refine w_makeK ?_
   refine w_cons ?_
   obtain ⟨x186, hx186, hm⟩ := Mi.bnd hm
   obtain ⟨u187, r188, ku189⟩ := itm_L r0 hx186
   obtain ⟨x190, hx190, hm⟩ := Mi.bnd hm
   have r191 := sum_L r188 hx190
   obtain ⟨_, rfl⟩ := r191
   refine c_val (ku189 (val_var rfl) val_c) ?_
   refine w_cons ?_
   obtain ⟨x192, hx192, hm⟩ := Mi.bnd hm
   obtain ⟨u193, r194, ku195⟩ := itm_L r0 hx192
   obtain ⟨x196, hx196, hm⟩ := Mi.bnd hm
   have r197 := sum_L r194 hx196
   obtain ⟨_, rfl⟩ := r197
   refine c_val (ku195 (val_var rfl) val_c) ?_
   refine w_cons ?_
   refine w_call ?_
   refine w_args (va_cons (val_var rfl) (va_cons (val_var rfl) va_nil)) ?_
   obtain ⟨q198, hq198, hm⟩ := Mi.bnd hm
   refine Or.inr (⟨(.ref p10), [p10], x8, d1, q198, rfl, r12, hq198, fun v201 H200 F203 c199 r202 fr204  => ?_⟩)
   have d205 : Dj F0 F203 := Ty.fresh r0 fr204
   have d206 : Dj [p10] F203 := Ty.fresh r12 fr204
   have d207 : Dj [p49] F203 := Ty.fresh r51 fr204
   have d208 : Dj [p89] F203 := Ty.fresh r91 fr204
   have n209 : ∀ a ∈ F203, H0 a = none := fun a h => c0.dom a (fr204 a h)
   have r0 := Ty.ex r0 c199
   have r12 := Ty.ex r12 c199
   have r51 := Ty.ex r51 c199
   have r91 := Ty.ex r91 c199
   have c0 := c0.trans c199.none
   refine w_nil ?_
   obtain ⟨x210, hx210, hm⟩ := Mi.bnd hm
   obtain ⟨u211, r212, ku213⟩ := itm_L r0 hx210
   obtain ⟨x214, hx214, hm⟩ := Mi.bnd hm
   have r215 := sum_L r212 hx214
   obtain ⟨_, rfl⟩ := r215
   refine w_args (va_cons (ku213 (val_var rfl) val_c) va_nil) ?_
   refine ⟨rfl, rfl, ?_⟩
   intro p216 dx217 nx218 ndx219 nex220
   have d221 : Dj F0 [p216] := Ty.nin r0 nx218
   have d222 : Dj [p10] [p216] := Ty.nin r12 nx218
   have d223 : Dj [p49] [p216] := Ty.nin r51 nx218
   have d224 : Dj [p89] [p216] := Ty.nin r91 nx218
   have d225 : Dj F203 [p216] := Ty.nin r202 nx218
   have n226 : ∀ a ∈ [p216], H0 a = none := one_fresh (c0.dom p216 nx218)
   obtain ⟨c227, r228⟩ := make_new (K := K) (C := C_Report) nx218 ndx219 nex220
   have r0 := Ty.ex r0 c227
   have r12 := Ty.ex r12 c227
   have r51 := Ty.ex r51 c227
   have r91 := Ty.ex r91 c227
   have r202 := Ty.ex r202 c227
   have c0 := c0.trans c227.none
   obtain ⟨q229, hq229, hm⟩ := Mi.bnd hm
   refine ⟨p216, dx217, x190, x196, v201, F203, q198, x214, true, q229, rfl, r228, r202, d225.symm, hq229, fun H231 c230 r232 => ⟨rfl, ?_⟩⟩
   have r0 := Ty.chg r0 c230 d221
   have r12 := Ty.chg r12 c230 d222
   have r51 := Ty.chg r51 c230 d223
   have r91 := Ty.chg r91 c230 d224
   have c0 := c0.join c230 (fun a h => .inr (n226 a h))
   refine w_cons ?_
   refine c_val (val_var rfl) ?_
   refine w_cons ?_
   refine c_val val_c ?_
   refine w_nil ?_
   obtain ⟨q233, hq233, hm⟩ := Mi.bnd hm
   refine ⟨(.ref p216), q229, v0, F0, d0, true, q233, rfl, r232, r0, hq233, fun H235 c234  => ?_⟩
   have r0 := Ty.ex r0 c234
   have r12 := Ty.ex r12 c234
   have r51 := Ty.ex r51 c234
   have r91 := Ty.ex r91 c234
   have c0 := c0.trans c234.none
   refine ⟨_, rfl, ?_⟩
   refine c_if (fun hb => ?_) (fun hb => ?_)
   ·
     replace hm := Mi.ifT hb hm
     refine q_ret ?_
     refine c_val val_c ?_
     obtain rfl := Option.some.inj hm
     exact hQ _ c0 
   replace hm := Mi.ifF hb hm
   refine w_fall ?_
   refine q_drop (w_bm (c_val (val_var rfl) ⟨tyv_lst r12, ?_⟩))
   refine w_args (va_cons val_c va_nil) ?_
   obtain ⟨x236, hx236, hm⟩ := Mi.bnd hm
   refine m_app r12 yInt_i hx236 fun H238 c237 r12 => ?_
   have r0 := Ty.chg r0 c237 d15
   have r51 := Ty.chg r51 c237 d55.symm
   have r91 := Ty.chg r91 c237 d95.symm
   have c0 := c0.join c237 (fun a h => .inr (n16 a h))
   refine q_drop (w_bm (c_val (val_var rfl) ⟨tyv_lst r12, ?_⟩))
   refine w_args (va_cons val_c va_nil) ?_
   obtain ⟨x239, hx239, hm⟩ := Mi.bnd hm
   refine m_app r12 yInt_i hx239 fun H241 c240 r12 => ?_
   have r0 := Ty.chg r0 c240 d15
   have r51 := Ty.chg r51 c240 d55.symm
   have r91 := Ty.chg r91 c240 d95.symm
   have c0 := c0.join c240 (fun a h => .inr (n16 a h))
   refine q_ret ?_
   refine w_call ?_
   obtain ⟨x242, hx242, hm⟩ := Mi.bnd hm
   obtain ⟨u243, r244, ku245⟩ := itm_L r51 hx242
   refine w_args (va_cons (ku245 (val_var rfl) val_c) (va_cons (val_var rfl) (va_cons (val_var rfl) va_nil))) ?_
   obtain ⟨q246, hq246, hm⟩ := Mi.bnd hm
   refine ⟨u243, x242, v0, F0, d0, d2, q246, rfl, r244, r0, hq246, fun H248 c247  => ?_⟩
   have r0 := Ty.ex r0 c247
   have r12 := Ty.ex r12 c247
   have r51 := Ty.ex r51 c247
   have r91 := Ty.ex r91 c247
   have c0 := c0.trans c247.none
   obtain rfl := Option.some.inj hm
   exact hQ _ c0 
abbrev s_law : Stmt := topS 49
theorem sc_law : FnScope ["_law_script", "_law_hand_here", "_law_right", "_law_says", "_law_form", "_law_parts", "_law_due", "_law_near"] ["_law_script"] (defScope s_law) := ⟨rfl, rfl, rfl, by decide +kernel, rfl, by decide +kernel, by decide +kernel⟩
def sp_law (K : PySem.W.Frag) : Sp := fun vs H Q _ => ∃ (v0 : V) (d0 : (List Int)) (r : Bool), vs = [v0] ∧ yScr.rep K H [] v0 d0 ∧ Mi.m_law d0 = some r ∧ ∀ H', Chg ([]) H H' → Q (.bl r) H'
theorem ok_law (B : Bi mg) (CN : Cs K mg) (D : Dfn K mg "law" s_law) (C_l_hand : Cal P w K mg "_law_hand" ["_law_script", "_law_k"] 1 (sp_l_hand K)) (C_l_pick : Cal P w K mg "_law_pick" ["_law_hand_here", "_law_size"] 1 (sp_l_pick K)) (C_l_places : Cal P w K mg "_law_places" ["_law_code"] 1 (sp_l_places K)) (C_l_turned : Cal P w K mg "_law_turned" ["_law_code", "_law_zone"] 1 (sp_l_turned K)) (C_l_spoilt : Cal P w K mg "_law_spoilt" ["_law_hand_here", "_law_parts"] 3 (sp_l_spoilt K)) (C_l_first_wrong : Cal P w K mg "_law_first_wrong" ["_law_parts"] 1 (sp_l_first_wrong K)) (C_l_refused : Cal P w K mg "_law_refused" ["_law_parts", "_law_form", "_law_says"] 4 (sp_l_refused K)) (C_l_by_base : Cal P w K mg "_law_by_base" ["_law_parts", "_law_form"] 4 (sp_l_by_base K)) (C_l_made : Cal P w K mg "_law_made" ["_law_parts", "_law_form", "_law_says"] 4 (sp_l_made K)) : Cal P w K mg "law" ["_law_script"] 5 (sp_law K) := by
 obtain ⟨f, fd, F, g⟩ := D.ex
 refine ⟨f, fd, g, F.kp, bindsF F (fun _ _ _ _ _ _ us hl => match us, hl with | [_], _ => rfl), fun base => F.ok sc_law (fun vs H Q E h => ?_) (fun cdv A outer s H0 vs Q E hr h => ?_)⟩
 · obtain ⟨v0, d0, r, rfl, r0, hm, hQ⟩ := h; rfl
 ·
   obtain ⟨v0, d0, r, rfl, r0, hm, hQ⟩ := h
   refine ⟨_, pss_cons (ps_set (i := 1) sc_law.nd rfl (.inl rfl) (pe_cc C_l_hand hr (pa_cons (pv 0) (pa_cons pe_int pa_nil))))
     (pss_cons (ps_set (i := 2) sc_law.nd rfl (.inl rfl) (pe_lst (pa_cons (pe_cc C_l_pick hr (pa_cons (pv 1) (pa_cons pe_int pa_nil))) (pa_cons (pe_cc C_l_pick hr (pa_cons (pv 1) (pa_cons pe_int pa_nil))) pa_nil))))
     (pss_cons (ps_expr (pe_bm PySem.F.plainAttrs_list PySem.F.slot_list_append PySem.F.type_list_append mt_append (pv 2) (pa_cons (pe_cc C_l_turned hr (pa_cons (pe_cc C_l_pick hr (pa_cons (pv 1) (pa_cons pe_int pa_nil))) (pa_cons (pe_cc C_l_places hr (pa_cons (pe_cc C_l_pick hr (pa_cons (pv 1) (pa_cons pe_int pa_nil))) pa_nil)) pa_nil))) pa_nil)))
     (pss_cons (ps_expr (pe_bm PySem.F.plainAttrs_list PySem.F.slot_list_append PySem.F.type_list_append mt_append (pv 2) (pa_cons (pe_op op_add pe_int (pe_cc C_l_pick hr (pa_cons (pv 1) (pa_cons pe_int pa_nil)))) pa_nil)))
     (pss_cons (ps_set (i := 3) sc_law.nd rfl (.inl rfl) (pe_cmpR op_eq (pe_cc C_l_pick hr (pa_cons (pv 1) (pa_cons pe_int pa_nil))) pe_int (nomark _)))
     (pss_cons (ps_set (i := 4) sc_law.nd rfl (.inl rfl) (pe_cc C_l_pick hr (pa_cons (pv 1) (pa_cons pe_int pa_nil))))
     (pss_cons (ps_set (i := 5) sc_law.nd rfl (.inl rfl) (pe_cc C_l_spoilt hr (pa_cons (pe_cc C_l_hand hr (pa_cons (pv 0) (pa_cons pe_int pa_nil))) (pa_cons (pe_callTy (cl_list (K := K)) (by rfl) B.list (by decide +kernel) (pa_cons (pv 2) pa_nil)) pa_nil))))
     (pss_cons (ps_set (i := 6) sc_law.nd rfl (.inl rfl) (pe_cc C_l_first_wrong hr (pa_cons (pv 5) pa_nil)))
     (pss_cons (ps_if (PW.pt (pw_or (pt_cmpR op_ne (pe_cc C_l_refused hr (pa_cons (pv 5) (pa_cons (pv 4) (pa_cons (pv 3) pa_nil)))) (pv 6) (nomark _)) (pw_or1 (PW.pt (pw_and (pt_cmpR op_notN1 (pv 6) pe_non (nomark _)) (pw_and1 (pt_not (pt_val (pe_cc C_l_by_base hr (pa_cons (pv 5) (pa_cons (pv 4) pa_nil))))))))))) (pss_cons (ps_ret pe_bl) pss_nil) (pss_nil))
     (pss_cons (ps_for PassesOwn.never rfl (pi_list (pe_lst (pa_cons (pv 2) (pa_cons (pe_lst (pa_cons pe_int (pa_cons pe_int (pa_cons (pe_frz (pe_lst pa_nil)) (pa_cons pe_int pa_nil))))) (pa_cons (pe_lst (pa_cons pe_int (pa_cons pe_int (pa_cons (pe_frz (pe_lst (pa_cons pe_int (pa_cons pe_int (pa_cons pe_int (pa_cons pe_int (pa_cons pe_int (pa_cons pe_int (pa_cons pe_int (pa_cons pe_int (pa_cons pe_int (pa_cons pe_int (pa_cons pe_int (pa_cons pe_int pa_nil)))))))))))))) (pa_cons pe_int pa_nil))))) pa_nil))))) (pg_name (i := 7) sc_law.nd rfl (.inl rfl)) (pss_cons (ps_if (pt_not (pt_val (pe_cc C_l_made hr (pa_cons (pv 7) (pa_cons (pv 4) (pa_cons (pv 3) pa_nil)))))) (pss_cons (ps_ret pe_bl) pss_nil) (pss_nil))
     (pss_nil)))
     (pss_cons (ps_ret (pe_cmpR op_eq (pe_cc C_l_refused hr (pa_cons (pv 5) (pa_cons (pe_op op_sub pe_int (pv 4)) (pa_cons (pe_not (pv 3)) pa_nil)))) (pv 6) (nomark _))) pss_nil)))))))))), ?_⟩
   have c0 : Chg ([] : List Addr) H0 H0 := Chg.refl H0
   unfold Mi.m_law at hm
   refine q_asg ?_
   refine w_call ?_
   refine w_args (va_cons (val_var rfl) (va_cons val_c va_nil)) ?_
   obtain ⟨q2, hq2, hm⟩ := Mi.bnd hm
   refine ⟨v0, d0, (0 : Int), q2, rfl, r0, hq2, fun v5 H4 F7 c3 r6 fr8  => ?_⟩
   have n9 : ∀ a ∈ F7, H0 a = none := fun a h => c0.dom a (fr8 a h)
   have r0 := Ty.fz r0 c3
   have c0 := c0.trans c3.none
   refine g_name (σ' := [some v0, some v5, none, none, none, none, none, none]) rfl ?_
   refine q_asg ?_
   refine w_lst ?_
   refine w_cons ?_
   refine w_call ?_
   refine w_args (va_cons (val_var rfl) (va_cons val_c va_nil)) ?_
   obtain ⟨q10, hq10, hm⟩ := Mi.bnd hm
   refine ⟨v5, F7, q2, (4 : Int), q10, rfl, r6, hq10, fun H12 c11 r6 => ?_⟩
   have r0 := Ty.fz r0 c11
   have c0 := c0.join c11 (fun a h => .inr (n9 a h))
   refine w_cons ?_
   refine w_call ?_
   refine w_args (va_cons (val_var rfl) (va_cons val_c va_nil)) ?_
   obtain ⟨q13, hq13, hm⟩ := Mi.bnd hm
   refine ⟨v5, F7, q10.2, (25 : Int), q13, rfl, r6, hq13, fun H15 c14 r6 => ?_⟩
   have r0 := Ty.fz r0 c14
   have c0 := c0.join c14 (fun a h => .inr (n9 a h))
   refine w_nil ?_
   refine e_lst (K := K) (τ := (ySum yInt (yFl yInt))) (by exact Nat.le_of_ble_eq_true rfl) (.cons (sum_l yInt_i) (.cons (sum_l yInt_i) .nil)) fun p16 H20 np19 c17 r18 => ?_
   have d21 : Dj F7 [p16] := Ty.nin r6 np19
   have n22 : ∀ a ∈ [p16], H0 a = none := one_fresh (c0.dom p16 np19)
   have r0 := Ty.fz r0 c17
   have r6 := Ty.ex r6 c17
   have c0 := c0.trans c17.none
   refine g_name (σ' := [some v0, some v5, some (.ref p16), none, none, none, none, none]) rfl ?_
   refine q_drop (w_bm (c_val (val_var rfl) ⟨tyv_lst r18, ?_⟩))
   refine w_cons ?_
   refine w_call ?_
   refine w_cons ?_
   refine w_call ?_
   refine w_args (va_cons (val_var rfl) (va_cons val_c va_nil)) ?_
   obtain ⟨q23, hq23, hm⟩ := Mi.bnd hm
   refine ⟨v5, F7, q13.2, (24 : Int), q23, rfl, r6, hq23, fun H25 c24 r6 => ?_⟩
   have r0 := Ty.fz r0 c24
   have r18 := Ty.chg r18 c24 d21.symm
   have c0 := c0.join c24 (fun a h => .inr (n9 a h))
   refine w_cons ?_
   refine w_call ?_
   refine w_cons ?_
   refine w_call ?_
   refine w_args (va_cons (val_var rfl) (va_cons val_c va_nil)) ?_
   obtain ⟨q26, hq26, hm⟩ := Mi.bnd hm
   refine ⟨v5, F7, q23.2, (24576 : Int), q26, rfl, r6, hq26, fun H28 c27 r6 => ?_⟩
   have r0 := Ty.fz r0 c27
   have r18 := Ty.chg r18 c27 d21.symm
   have c0 := c0.join c27 (fun a h => .inr (n9 a h))
   refine w_nil ?_
   obtain ⟨q29, hq29, hm⟩ := Mi.bnd hm
   refine ⟨q26.1, q29, rfl, hq29, fun v32 H31 c30 r33  => ?_⟩
   have r0 := Ty.fz r0 c30
   have r6 := Ty.ex r6 c30
   have r18 := Ty.ex r18 c30
   have c0 := c0.trans c30.none
   refine w_nil ?_
   obtain ⟨q34, hq34, hm⟩ := Mi.bnd hm
   refine ⟨q23.1, v32, q29, q34, rfl, r33, hq34, fun v37 H36 c35 r38  => ?_⟩
   have r0 := Ty.fz r0 c35
   have r6 := Ty.ex r6 c35
   have r18 := Ty.ex r18 c35
   have c0 := c0.trans c35.none
   refine w_nil ?_
   obtain ⟨x39, hx39, hm⟩ := Mi.bnd hm
   refine m_app r18 (sum_r r38) hx39 fun H41 c40 r18 => ?_
   have r0 := Ty.fz r0 c40
   have r6 := Ty.chg r6 c40 d21
   have c0 := c0.join c40 (fun a h => .inr (n22 a h))
   refine q_drop (w_bm (c_val (val_var rfl) ⟨tyv_lst r18, ?_⟩))
   refine w_cons ?_
   refine w_op ?_
   refine c_val val_c ?_
   refine w_call ?_
   refine w_args (va_cons (val_var rfl) (va_cons val_c va_nil)) ?_
   obtain ⟨q42, hq42, hm⟩ := Mi.bnd hm
   refine ⟨v5, F7, q26.2, (99 : Int), q42, rfl, r6, hq42, fun H44 c43 r6 => ?_⟩
   have r0 := Ty.fz r0 c43
   have r18 := Ty.chg r18 c43 d21.symm
   have c0 := c0.join c43 (fun a h => .inr (n9 a h))
   refine w_I0 ?_
   refine w_nil ?_
   obtain ⟨x45, hx45, hm⟩ := Mi.bnd hm
   refine m_app r18 (sum_l yInt_i) hx45 fun H47 c46 r18 => ?_
   have r0 := Ty.fz r0 c46
   have r6 := Ty.chg r6 c46 d21
   have c0 := c0.join c46 (fun a h => .inr (n22 a h))
   refine q_asg ?_
   refine w_op ?_
   refine w_call ?_
   refine w_args (va_cons (val_var rfl) (va_cons val_c va_nil)) ?_
   obtain ⟨q48, hq48, hm⟩ := Mi.bnd hm
   refine ⟨v5, F7, q42.2, (2 : Int), q48, rfl, r6, hq48, fun H50 c49 r6 => ?_⟩
   have r0 := Ty.fz r0 c49
   have r18 := Ty.chg r18 c49 d21.symm
   have c0 := c0.join c49 (fun a h => .inr (n9 a h))
   refine c_val val_c ?_
   refine w_eqI ?_
   obtain ⟨says51, hsays51, hm⟩ := Mi.letE hm
   refine g_nameE (congrArg V.bl hsays51) (σ' := [some v0, some v5, some (.ref p16), some (.bl says51), none, none, none, none]) rfl ?_
   refine q_asg ?_
   refine w_call ?_
   refine w_args (va_cons (val_var rfl) (va_cons val_c va_nil)) ?_
   obtain ⟨q52, hq52, hm⟩ := Mi.bnd hm
   refine ⟨v5, F7, q48.2, (2 : Int), q52, rfl, r6, hq52, fun H54 c53 r6 => ?_⟩
   have r0 := Ty.fz r0 c53
   have r18 := Ty.chg r18 c53 d21.symm
   have c0 := c0.join c53 (fun a h => .inr (n9 a h))
   refine g_name (σ' := [some v0, some v5, some (.ref p16), some (.bl says51), some (.int q52.1), none, none, none]) rfl ?_
   refine q_asg ?_
   refine w_call ?_
   refine w_cons ?_
   refine w_call ?_
   refine w_args (va_cons (val_var rfl) (va_cons val_c va_nil)) ?_
   obtain ⟨q55, hq55, hm⟩ := Mi.bnd hm
   refine ⟨v0, d0, (1 : Int), q55, rfl, r0, hq55, fun v58 H57 F60 c56 r59 fr61  => ?_⟩
   have d62 : Dj F7 F60 := Ty.fresh r6 fr61
   have d63 : Dj [p16] F60 := Ty.fresh r18 fr61
   have n64 : ∀ a ∈ F60, H0 a = none := fun a h => c0.dom a (fr61 a h)
   have r0 := Ty.fz r0 c56
   have r6 := Ty.ex r6 c56
   have r18 := Ty.ex r18 c56
   have c0 := c0.trans c56.none
   refine w_cons ?_
   refine w_cb ?_
   refine w_args (va_cons (val_var rfl) va_nil) ?_
   refine w_listL r18 fun p65 H69 np68 c66 r67 => ?_
   have d70 : Dj F7 [p65] := Ty.nin r6 np68
   have d71 : Dj [p16] [p65] := Ty.nin r18 np68
   have d72 : Dj F60 [p65] := Ty.nin r59 np68
   have n73 : ∀ a ∈ [p65], H0 a = none := one_fresh (c0.dom p65 np68)
   have r0 := Ty.fz r0 c66
   have r6 := Ty.ex r6 c66
   have r18 := Ty.ex r18 c66
   have r59 := Ty.ex r59 c66
   have c0 := c0.trans c66.none
   refine w_nil ?_
   obtain ⟨q74, hq74, hm⟩ := Mi.bnd hm
   have r59_old := r59
   refine ⟨v58, F60, q55, (.ref p65), [p65], x45, q74, rfl, r59, r67, d72, hq74, fun v77 H76 F79 c75 r78 fr80 r59 => ?_⟩
   have d81 : Dj F7 F79 := Ty.freshOr r6 fr80 (d70)
   have d82 : Dj [p16] F79 := Ty.freshOr r18 fr80 (d71)
   have n83 : ∀ a ∈ F79, H0 a = none := fun a h => (fr80 a h).elim (fun z => c0.dom a z) (fun z => n73 a z)
   have r0 := Ty.fz r0 c75
   have r6 := Ty.chg r6 c75 (Dj.symm (Dj.app (Dj.symm (d62)) (Dj.symm (d70))))
   have r18 := Ty.chg r18 c75 (Dj.symm (Dj.app (Dj.symm (d63)) (Dj.symm (d71))))
   have c0 := c0.join c75 (fun a h => (List.mem_append.mp h).elim (fun h => .inr (n64 a h)) (fun h => .inr (n73 a h)))
   refine g_name (σ' := [some v0, some v5, some (.ref p16), some (.bl says51), some (.int q52.1), some v77, none, none]) rfl ?_
   refine q_asg ?_
   refine w_call ?_
   refine w_args (va_cons (val_var rfl) va_nil) ?_
   obtain ⟨q84, hq84, hm⟩ := Mi.bnd hm
   refine ⟨v77, F79, q74.1, q84, rfl, r78, hq84, fun v87 H86 c85 r88  => ?_⟩
   have r0 := Ty.fz r0 c85
   have r6 := Ty.ex r6 c85
   have r18 := Ty.ex r18 c85
   have r78 := Ty.ex r78 c85
   have c0 := c0.trans c85.none
   refine g_name (σ' := [some v0, some v5, some (.ref p16), some (.bl says51), some (.int q52.1), some v77, some v87, none]) rfl ?_
   refine q_ifS ?_
   obtain ⟨b89, hb89, hm⟩ := Mi.bnd hm
   refine j_tt b89 (R := fun H' => Chg ([] : List Addr) H0 H' ∧ yScr.rep K H' [] v0 d0 ∧ (yLst yInt).rep K H' F7 v5 q52.2 ∧ (yLst (ySum yInt (yFl yInt))).rep K H' [p16] (.ref p16) x45 ∧ (yLst (ySum yInt (yFl yInt))).rep K H' F79 v77 q74.1 ∧ (yOpt yStr).rep K H' [] v87 q84) (fun Q' kq => ?_) (fun H' hj => ?_)
   ·
     refine w_or ?_
     refine w_test ?_
     refine w_op ?_
     refine w_call ?_
     refine w_args (va_cons (val_var rfl) (va_cons (val_var rfl) (va_cons (val_var rfl) va_nil))) ?_
     obtain ⟨q90, hq90, hb89⟩ := Mi.bnd hb89
     refine ⟨v77, F79, q74.1, q52.1, says51, q90, rfl, r78, hq90, fun v93 H92 c91 r94  => ?_⟩
     have r0 := Ty.fz r0 c91
     have r6 := Ty.ex r6 c91
     have r18 := Ty.ex r18 c91
     have r78 := Ty.ex r78 c91
     have r88 := Ty.fz r88 c91
     have c0 := c0.trans c91.none
     refine c_val (val_var rfl) ?_
     refine w_neOS r94 r88 ?_
     refine ⟨_, rfl, ?_⟩
     refine c_if (fun hb => ?_) (fun hb => ?_)
     ·
       replace hb89 := Mi.ifT hb hb89
       obtain rfl := Option.some.inj hb89
       exact kq _ ⟨c0, r0, r6, r18, r78, r88⟩
     replace hb89 := Mi.ifF hb hb89
     obtain ⟨b95, hb95, hb89⟩ := Mi.bnd hb89
     refine j_tt b95 (R := fun H' => Chg ([] : List Addr) H0 H' ∧ yScr.rep K H' [] v0 d0 ∧ (yLst yInt).rep K H' F7 v5 q52.2 ∧ (yLst (ySum yInt (yFl yInt))).rep K H' [p16] (.ref p16) x45 ∧ (yLst (ySum yInt (yFl yInt))).rep K H' F79 v77 q74.1 ∧ (yOpt yStr).rep K H' [] v87 q84) (fun Q' kq => ?_) (fun H' hj => ?_)
     ·
       refine w_and ?_
       refine c_ans (ans_t (val_notN r88 (val_var rfl))) ?_
       refine c_if (fun hb => ?_) (fun hb => ?_)
       rotate_left
       ·
         replace hb95 := Mi.ifF hb hb95
         obtain rfl := Option.some.inj hb95
         exact kq _ ⟨c0, r0, r6, r18, r78, r88⟩
       replace hb95 := Mi.ifT hb hb95
       refine w_not ?_
       refine w_B ?_
       refine w_call ?_
       refine w_args (va_cons (val_var rfl) (va_cons (val_var rfl) va_nil)) ?_
       obtain ⟨q96, hq96, hb95⟩ := Mi.bnd hb95
       refine ⟨v77, F79, q74.1, q52.1, q96, rfl, r78, hq96, fun H98 c97  => ?_⟩
       have r0 := Ty.fz r0 c97
       have r6 := Ty.ex r6 c97
       have r18 := Ty.ex r18 c97
       have r78 := Ty.ex r78 c97
       have r88 := Ty.fz r88 c97
       have c0 := c0.trans c97.none
       refine ⟨_, rfl, ?_⟩
       obtain rfl := Option.some.inj hb95
       exact kq _ ⟨c0, r0, r6, r18, r78, r88⟩
     obtain ⟨c0, r0, r6, r18, r78, r88⟩ := hj
     obtain rfl := Option.some.inj hb89
     exact kq _ ⟨c0, r0, r6, r18, r78, r88⟩
   obtain ⟨c0, r0, r6, r18, r78, r88⟩ := hj
   refine c_if (fun hb => ?_) (fun hb => ?_)
   ·
     replace hm := Mi.ifT hb hm
     refine q_ret ?_
     refine c_val val_c ?_
     obtain rfl := Option.some.inj hm
     exact hQ _ c0 
   replace hm := Mi.ifF hb hm
   refine w_fall ?_
   refine q_for ?_
   refine w_iList ?_
   refine w_lst ?_
   refine w_cons ?_
   refine c_val (val_var rfl) ?_
   refine w_cons ?_
   refine w_lst ?_
   refine w_cons ?_
   refine c_val val_c ?_
   refine w_cons ?_
   refine c_val val_c ?_
   refine w_cons ?_
   refine w_frz ?_
   refine w_lst ?_
   refine w_args va_nil ?_
   refine e_lst (K := K) (τ := yInt) (by exact Nat.le_of_ble_eq_true rfl) .nil fun p99 H103 np102 c100 r101 => ?_
   have d104 : Dj F7 [p99] := Ty.nin r6 np102
   have d105 : Dj [p16] [p99] := Ty.nin r18 np102
   have d106 : Dj F79 [p99] := Ty.nin r78 np102
   have n107 : ∀ a ∈ [p99], H0 a = none := one_fresh (c0.dom p99 np102)
   have r0 := Ty.fz r0 c100
   have r6 := Ty.ex r6 c100
   have r18 := Ty.ex r18 c100
   have r78 := Ty.ex r78 c100
   have r88 := Ty.fz r88 c100
   have c0 := c0.trans c100.none
   refine e_frz r101 fun H109 c108 r110 => ?_
   have r0 := Ty.fz r0 c108
   have r6 := Ty.chg r6 c108 d104
   have r18 := Ty.chg r18 c108 d105
   have r78 := Ty.chg r78 c108 d106
   have r88 := Ty.fz r88 c108
   have c0 := c0.join c108 (fun a h => .inr (n107 a h))
   refine w_cons ?_
   refine c_val val_c ?_
   refine w_nil ?_
   refine e_lst (K := K) (τ := (ySum yInt (yFl yInt))) (by exact Nat.le_of_ble_eq_true rfl) (.cons (sum_l yInt_i) (.cons (sum_l yInt_i) (.cons (sum_r r110) (.cons (sum_l yInt_i) .nil)))) fun p111 H115 np114 c112 r113 => ?_
   have d116 : Dj F7 [p111] := Ty.nin r6 np114
   have d117 : Dj [p16] [p111] := Ty.nin r18 np114
   have d118 : Dj F79 [p111] := Ty.nin r78 np114
   have n119 : ∀ a ∈ [p111], H0 a = none := one_fresh (c0.dom p111 np114)
   have r0 := Ty.fz r0 c112
   have r6 := Ty.ex r6 c112
   have r18 := Ty.ex r18 c112
   have r78 := Ty.ex r78 c112
   have r88 := Ty.fz r88 c112
   have r110 := Ty.fz r110 c112
   have c0 := c0.trans c112.none
   refine w_cons ?_
   refine w_lst ?_
   refine w_cons ?_
   refine c_val val_c ?_
   refine w_cons ?_
   refine c_val val_c ?_
   refine w_cons ?_
   refine w_frz ?_
   refine w_lst ?_
   refine w_args (va_cons val_c (va_cons val_c (va_cons val_c (va_cons val_c (va_cons val_c (va_cons val_c (va_cons val_c (va_cons val_c (va_cons val_c (va_cons val_c (va_cons val_c (va_cons val_c va_nil)))))))))))) ?_
   refine e_lst (K := K) (τ := yInt) (by exact Nat.le_of_ble_eq_true rfl) (.cons yInt_i (.cons yInt_i (.cons yInt_i (.cons yInt_i (.cons yInt_i (.cons yInt_i (.cons yInt_i (.cons yInt_i (.cons yInt_i (.cons yInt_i (.cons yInt_i (.cons yInt_i .nil)))))))))))) fun p120 H124 np123 c121 r122 => ?_
   have d125 : Dj F7 [p120] := Ty.nin r6 np123
   have d126 : Dj [p16] [p120] := Ty.nin r18 np123
   have d127 : Dj F79 [p120] := Ty.nin r78 np123
   have d128 : Dj [p111] [p120] := Ty.nin r113 np123
   have n129 : ∀ a ∈ [p120], H0 a = none := one_fresh (c0.dom p120 np123)
   have r0 := Ty.fz r0 c121
   have r6 := Ty.ex r6 c121
   have r18 := Ty.ex r18 c121
   have r78 := Ty.ex r78 c121
   have r88 := Ty.fz r88 c121
   have r113 := Ty.ex r113 c121
   have c0 := c0.trans c121.none
   refine e_frz r122 fun H131 c130 r132 => ?_
   have r0 := Ty.fz r0 c130
   have r6 := Ty.chg r6 c130 d125
   have r18 := Ty.chg r18 c130 d126
   have r78 := Ty.chg r78 c130 d127
   have r88 := Ty.fz r88 c130
   have r113 := Ty.chg r113 c130 d128
   have c0 := c0.join c130 (fun a h => .inr (n129 a h))
   refine w_cons ?_
   refine c_val val_c ?_
   refine w_nil ?_
   refine e_lst (K := K) (τ := (ySum yInt (yFl yInt))) (by exact Nat.le_of_ble_eq_true rfl) (.cons (sum_l yInt_i) (.cons (sum_l yInt_i) (.cons (sum_r r132) (.cons (sum_l yInt_i) .nil)))) fun p133 H137 np136 c134 r135 => ?_
   have d138 : Dj F7 [p133] := Ty.nin r6 np136
   have d139 : Dj [p16] [p133] := Ty.nin r18 np136
   have d140 : Dj F79 [p133] := Ty.nin r78 np136
   have d141 : Dj [p111] [p133] := Ty.nin r113 np136
   have n142 : ∀ a ∈ [p133], H0 a = none := one_fresh (c0.dom p133 np136)
   have r0 := Ty.fz r0 c134
   have r6 := Ty.ex r6 c134
   have r18 := Ty.ex r18 c134
   have r78 := Ty.ex r78 c134
   have r88 := Ty.fz r88 c134
   have r113 := Ty.ex r113 c134
   have r132 := Ty.fz r132 c134
   have c0 := c0.trans c134.none
   refine w_nil ?_
   refine e_lsg (K := K) (τ := (yLst (ySum yInt (yFl yInt)))) (G := ([p16] ++ ([p111] ++ [p133]))) (by exact Nat.le_of_ble_eq_true rfl) (dm_app (Ty.dm r18) (dm_app (Ty.dm r113) (Ty.dm r135))) (.cons ⟨[p16], r18, (fun b h => List.mem_append_left _ h)⟩ (.cons ⟨[p111], r113, (fun b h => List.mem_append_right _ (List.mem_append_left _ h))⟩ (.cons ⟨[p133], r135, (fun b h => List.mem_append_right _ (List.mem_append_right _ (h)))⟩ .nil))) fun p143 H147 np146 c144 r145 => ?_
   have d148 : Dj F7 (p143 :: ([p16] ++ ([p111] ++ [p133]))) := Dj.consR (Ty.nin r6 np146) (Dj.symm (Dj.app (Dj.symm (d21)) (Dj.symm (Dj.symm (Dj.app (Dj.symm (d116)) (Dj.symm (d138)))))))
   have d149 : Dj F79 (p143 :: ([p16] ++ ([p111] ++ [p133]))) := Dj.consR (Ty.nin r78 np146) (Dj.symm (Dj.app (Dj.symm (d82.symm)) (Dj.symm (Dj.symm (Dj.app (Dj.symm (d118)) (Dj.symm (d140)))))))
   have n150 : ∀ a ∈ (p143 :: ([p16] ++ ([p111] ++ [p133]))), H0 a = none := fresh_cons (c0.dom p143 np146) (app_fresh n22 (app_fresh n119 n142))
   have r0 := Ty.fz r0 c144
   have r6 := Ty.ex r6 c144
   have r18 := Ty.ex r18 c144
   have r78 := Ty.ex r78 c144
   have r88 := Ty.fz r88 c144
   have r113 := Ty.ex r113 c144
   have r135 := Ty.ex r135 c144
   have c0 := c0.trans c144.none
   obtain ⟨e151, he151, hm⟩ := Mi.bnd hm
   refine l_lsg r145 (fun i σ' H' => ∃ (s152 : Unit) (y153 : Option V), σ' = [some v0, some v5, some (.ref p16), some (.bl says51), some (.int q52.1), some v77, some v87, y153] ∧ Chg ([] : List Addr) H0 H' ∧ yScr.rep K H' [] v0 d0 ∧ (yLst yInt).rep K H' F7 v5 q52.2 ∧ (yLst (ySum yInt (yFl yInt))).rep K H' [p16] (.ref p16) x45 ∧ (yLst (ySum yInt (yFl yInt))).rep K H' F79 v77 q74.1 ∧ (yOpt yStr).rep K H' [] v87 q84 ∧ (yLsg (yLst (ySum yInt (yFl yInt)))).rep K H' (p143 :: ([p16] ++ ([p111] ++ [p133]))) (.ref p143) [x45, [(.inl (0 : Int)), (.inl (0 : Int)), (.inr ([] : (List Int))), (.inl (1 : Int))], [(.inl (3 : Int)), (.inl (24 : Int)), (.inr [(11 : Int), (10 : Int), (9 : Int), (8 : Int), (7 : Int), (6 : Int), (5 : Int), (4 : Int), (3 : Int), (2 : Int), (1 : Int), (0 : Int)]), (.inl (99 : Int))]] ∧ Mi.forR (Mi.m_law_b1 says51 q52) s152 (List.drop i [x45, [(.inl (0 : Int)), (.inl (0 : Int)), (.inr ([] : (List Int))), (.inl (1 : Int))], [(.inl (3 : Int)), (.inl (24 : Int)), (.inr [(11 : Int), (10 : Int), (9 : Int), (8 : Int), (7 : Int), (6 : Int), (5 : Int), (4 : Int), (3 : Int), (2 : Int), (1 : Int), (0 : Int)]), (.inl (99 : Int))]]) = some e151) ⟨(), none, rfl, c0, r0, r6, r18, r78, r88, r145, he151⟩ (fun i σ' H' hp => by obtain ⟨s152, y153, rfl, c0, r0, r6, r18, r78, r88, r145, _⟩ := hp; exact r145) (fun i156 x155 u157 F159 σ' H' hx154 r158 su160 hp => ?_) (fun σ' H' hp => ?_)
   ·
     obtain ⟨s152, y153, rfl, c0, r0, r6, r18, r78, r88, r145, hle151⟩ := hp
     obtain ⟨o161, hbe151, hore151⟩ := Mi.forR_go hle151 hx154
     unfold Mi.m_law_b1 at hbe151
     have d162 : Dj F159 F7 := Dj.sub (d148.symm) su160
     have d163 : Dj F159 F79 := Dj.sub (d149.symm) su160
     have n164 : ∀ a ∈ F159, H0 a = none := fun a h => n150 a (su160 a h)
     refine g_name (σ' := [some v0, some v5, some (.ref p16), some (.bl says51), some (.int q52.1), some v77, some v87, some u157]) rfl ?_
     refine q_ifS ?_
     refine w_not ?_
     refine w_B ?_
     refine w_call ?_
     refine w_args (va_cons (val_var rfl) (va_cons (val_var rfl) (va_cons (val_var rfl) va_nil))) ?_
     obtain ⟨q165, hq165, hbe151⟩ := Mi.bnd hbe151
     refine ⟨u157, F159, x155, q52.1, says51, q165, rfl, r158, hq165, fun H167 c166  => ?_⟩
     have r0 := Ty.fz r0 c166
     have r6 := Ty.ex r6 c166
     have r18 := Ty.ex r18 c166
     have r78 := Ty.ex r78 c166
     have r88 := Ty.fz r88 c166
     have r158 := Ty.ex r158 c166
     have r145 := Ty.ex r145 c166
     have c0 := c0.trans c166.none
     refine ⟨_, rfl, ?_⟩
     refine c_if (fun hb => ?_) (fun hb => ?_)
     ·
       replace hbe151 := Mi.ifT hb hbe151
       refine q_ret ?_
       refine c_val val_c ?_
       obtain rfl := Option.some.inj hbe151
       obtain rfl := Mi.or_inl hore151
       obtain rfl := Option.some.inj (Mi.orR_inl hm)
       exact hQ _ c0 
     replace hbe151 := Mi.ifF hb hbe151
     refine w_fall ?_
     refine w_nextJ ?_
     obtain rfl := Option.some.inj hbe151
     replace hore151 := Mi.or_inr hore151
     exact ⟨_, (some u157), rfl, c0, r0, r6, r18, r78, r88, r145, hore151⟩
   obtain ⟨s152, y153, rfl, c0, r0, r6, r18, r78, r88, r145, hle151⟩ := hp
   obtain rfl := Mi.forR_end hle151
   replace hm := Mi.orR_inr hm
   refine q_ret ?_
   refine w_op ?_
   refine w_call ?_
   refine w_args (va_cons (val_var rfl) (va_cons (val_sub val_c (val_var rfl)) (va_cons (val_notV (val_var rfl)) va_nil))) ?_
   obtain ⟨q168, hq168, hm⟩ := Mi.bnd hm
   refine ⟨v77, F79, q74.1, ((1 : Int) - q52.1), (!says51), q168, rfl, r78, hq168, fun v171 H170 c169 r172  => ?_⟩
   have r0 := Ty.fz r0 c169
   have r6 := Ty.ex r6 c169
   have r18 := Ty.ex r18 c169
   have r78 := Ty.ex r78 c169
   have r88 := Ty.fz r88 c169
   have c0 := c0.trans c169.none
   refine c_val (val_var rfl) ?_
   refine w_eqOS r172 r88 ?_
   obtain rfl := Option.some.inj hm
   exact hQ _ c0 
end
end G
set_option maxHeartbeats 0
namespace G
open PySem PySem.Spec PyProof.Rows L2
theorem fun_of {K : PySem.W.Frag} {x q : Str} {st : Stmt} {f : Addr} {fd : FuncData} (F : FunD K x q (defArgs st) (defBody st) (defScope st) [] [] f fd) : Fun K x q st f fd := by
 obtain ⟨oc, od, dV, kV, doc, pm, an, cdv, ct, osl, e, lk, hcd, hd, _⟩ := F.ex
 rcases hd with ⟨_, rfl⟩ | ⟨z, _⟩
 · exact ⟨⟨oc, od, kV, doc, pm, an, cdv, ct, osl, e, lk, hcd⟩, F.kp⟩
 · exact absurd rfl z
def dOf (x : Str) (i : Nat) : He.DefD := ⟨(x, none), x, x, defArgs (topS i), defBody (topS i), defScope (topS i), [], []⟩
def dOfM (c m qual : Str) (st : Stmt) (kw : List (Str × He.Dv)) : He.DefD := ⟨(c, some m), m, qual, defArgs st, defBody st, defScope st, [], kw⟩
def fnL : List He.DefD := [dOf "ascending" 26, dOf "is_zone" 27, dOfM "Report" "__init__" "Report.__init__" s_Report_init [("weight", .int 1), ("inside", .bl true)], dOf "_law_hand" 35, dOf "_law_pick" 36, dOf "_law_int" 37, dOf "_law_places" 38, dOf "_law_turned" 39, dOf "_law_flag" 40, dOf "_law_spoilt_zone" 41, dOf "_law_spoilt" 42, dOf "_law_first_wrong" 43, dOf "_law_handed" 44, dOf "_law_refused" 45, dOf "_law_by_base" 46, dOf "_law_keeps" 47, dOf "_law_made" 48, dOf "law" 49]
def faL : List He.Fa := [.glo "ascending", .glo "is_zone", .mkr "Report", .glo "_law_hand", .glo "_law_pick", .glo "_law_int", .glo "_law_places", .glo "_law_turned", .glo "_law_flag", .glo "_law_spoilt_zone", .glo "_law_spoilt", .glo "_law_first_wrong", .glo "_law_handed", .glo "_law_refused", .glo "_law_by_base", .glo "_law_keeps", .glo "_law_made", .glo "law", .free "len", .free "range", .free "int", .free "bool", .free "isinstance", .free "max", .free "min", .free "list", .free "tuple", .free "sorted", .free "set", .free "enumerate", .free "zip", .free "reversed", .free "sum", .free "any", .free "all", .free "str", .int "LAST_HOUR" 24, .int "LAST_SHIP" 3, .int "MOST_WEIGHT" 99, .int "PLACES" 12, .glo "Report", .cls "Report", .noat "Report" "ship", .noat "Report" "hour", .noat "Report" "zone", .noat "Report" "weight", .noat "Report" "inside", .free "super", .glo "InvalidReport", .glo "InvalidSetting", .glo "InvalidReceipt", .glo "InvalidOrder", .glo "InvalidLight", .glo "InvalidLetter", .glo "InvalidChart", .glo "NothingToUndo", .glo "NothingToRedo", .glo "NoSuchNumber", .glo "NoRun", .glo "NoDriving", .glo "InvalidStay", .glo "InvalidShip", .glo "UnknownEntry", .glo "NoWorld", .glo "NoWay", .glo "NotInPlay", .glo "DoesNotFit", .glo "Contradiction", .glo "BadText", .glo "BadClaim", .glo "FleetError", .free "ValueError"]
abbrev R : PySem.W.OpenRow := PySem.W.OpenLaw.row PySem.Challenge.rw_fogfleet_k18_reports_refused
def aL : List Addr := (List.range 1000).reverse
def exL (K : PySem.W.Frag) : Bool := decide (PySem.W.exmOne K (.ref (He.ga K "InvalidReport")) (.ref (He.ga K "InvalidReport")) = some true) && decide (PySem.W.kitAny K (.ref (He.ga K "InvalidReport")) [(.ref (He.ga K "InvalidChart")), (.ref (He.ga K "InvalidLetter")), (.ref (He.ga K "InvalidLight")), (.ref (He.ga K "InvalidOrder")), (.ref (He.ga K "InvalidReceipt")), (.ref (He.ga K "InvalidSetting"))] = some false) && decide (PySem.W.kitAny K (.ref (He.ga K "InvalidReport")) [(.ref (He.ga K "InvalidShip")), (.ref (He.ga K "InvalidStay")), (.ref (He.ga K "NoDriving")), (.ref (He.ga K "NoRun")), (.ref (He.ga K "NoSuchNumber")), (.ref (He.ga K "NothingToRedo")), (.ref (He.ga K "NothingToUndo"))] = some false) && decide (PySem.W.kitAny K (.ref (He.ga K "InvalidReport")) [(.ref (He.ga K "BadClaim")), (.ref (He.ga K "BadText")), (.ref (He.ga K "Contradiction")), (.ref (He.ga K "DoesNotFit")), (.ref (He.ga K "NotInPlay")), (.ref (He.ga K "NoWay")), (.ref (He.ga K "NoWorld")), (.ref (He.ga K "UnknownEntry"))] = some false) && decide (PySem.W.exmOne K (.ref (He.ga K "InvalidReport")) (.ref (He.ga K "FleetError")) = some true) && decide (PySem.W.kitOne K (.ref (He.ga K "InvalidReport")) (.type "ValueError") = some true) && decide (PySem.W.kitOne K (.ref (He.ga K "InvalidReport")) (.ref (He.ga K "InvalidReport")) = some true)
def erL : List ErrD := [⟨"InvalidReport", "InvalidReport.__init__", inClass (topS 6) 0⟩]
def fileS : Str := R.prog.main.file
noncomputable abbrev hk : PySem.W.Hook := hookXL aL faL fnL exL fileS erL
noncomputable def ob (s : PySem.W.SharedT) : AlX := obsXGL aL faL fnL exL fileS erL (HandSHeadRun.getT s)
theorem ob_eq (s : PySem.W.SharedT) : ob s = hk.obs s.abs := obsXGL_eq (HandSHeadRun.getT_eq s)
def looseL : List Str := (["_wall", "FleetError", "InvalidChart", "InvalidShip", "InvalidLight", "InvalidReport", "InvalidLetter", "InvalidSetting", "InvalidReceipt", "NotInPlay", "NoDriving", "NoSuchNumber", "DoesNotFit", "NoWay", "InvalidOrder", "InvalidStay", "BadText", "BadClaim", "UnknownEntry", "NoRun"] : List Str) ++ (["NoWorld", "Contradiction", "NothingToUndo", "NothingToRedo", "ascending", "is_zone", "LAST_SHIP", "LAST_HOUR", "PLACES", "MOST_WEIGHT", "Report", "_law_hand", "_law_pick", "_law_int", "_law_places", "_law_turned", "_law_flag", "_law_spoilt_zone", "_law_spoilt", "_law_first_wrong"] : List Str) ++ (["_law_handed", "_law_refused", "_law_by_base", "_law_keeps", "_law_made"] : List Str)
theorem run (w : World) : HandSHeadRun.RunEq R (PySem.W.view R.prog [49]) hk ob 40000 looseL w := by
 intro os
 kernel_rfl
theorem dfn_of {K : PySem.W.Frag} {h : Heap} {mg : Str → Option Value} (X : K.In h) (G : h.Ns mainGlobals mg) (c : He.SaysD faL fnL K) (i j k : Nat) (x : Str) (hi : fnL[i]? = some (dOf x k)) (hj : faL[j]? = some (.glo x)) : Dfn K mg x (topS k) := by
 obtain ⟨fd, F⟩ := c.def_ i hi
 exact ⟨⟨_, fd, fun_of F, He.glo_ok X G (c.fact j hj)⟩⟩
theorem dfnI_of {K : PySem.W.Frag} (c : He.SaysD faL fnL K) (i j : Nat) (C qual : Str) (st : Stmt) (kw : List (Str × He.Dv)) (hi : fnL[i]? = some (dOfM C "__init__" qual st kw)) (hj : faL[j]? = some (.mkr C)) : DfnI K (He.ga K C) qual st (kw.map fun q => (q.1, q.2.v K)) := by
 obtain ⟨fd, F⟩ := c.def_ i hi
 exact ⟨⟨_, fd, F, He.mkr_ok (c.fact j hj)⟩⟩
theorem facts {P : Program} {w : World} {K : PySem.W.Frag} {h : Heap} {mg : Str → Option Value} (X : K.In h) (G : h.Ns mainGlobals mg) (cx : SaysX faL fnL exL fileS erL K) (hp1 : (P.main.scope.names.lookup ("super" : Str)).isSome = false) (hp2 : (P.main.file : Str) = fileS) {fa : Addr} (hfa : mg ("law" : Str) = some (.ref fa)) :
   ∃ fd : FuncData, (∀ (s : Shared) (v : Value), BindsTo s fd ⟨[v], []⟩ [("_law_script", v)]) ∧ ∀ base : Heap, K.In base → base.Ns mainGlobals mg → FnOk P w K mg base CX0 5 fa fd ["_law_script"] (sp_law K) := by
 have c := cx.d
 have ce := cx.e
 obtain ⟨T_InvalidReport, XK_InvalidReport⟩ := err_of (P := P) (d := ⟨"InvalidReport", "InvalidReport.__init__", inClass (topS 6) 0⟩) X G (cx.err 0 rfl).1 (cx.err 0 rfl).2 (c.fact 48 rfl) (c.fact 47 rfl) hp1 hp2 ⟨_, _, _, _, _, _, _, _, _, _, _, _, _, _, _, rfl, rfl, rfl, by decide +kernel, fun L f cda cc => ⟨_, rfl⟩⟩
 have B : Bi mg := ⟨He.free_ok X G (c.fact 18 rfl), He.free_ok X G (c.fact 19 rfl), He.free_ok X G (c.fact 20 rfl), He.free_ok X G (c.fact 21 rfl), He.free_ok X G (c.fact 22 rfl), He.free_ok X G (c.fact 23 rfl), He.free_ok X G (c.fact 24 rfl), He.free_ok X G (c.fact 25 rfl), He.free_ok X G (c.fact 26 rfl), He.free_ok X G (c.fact 27 rfl), He.free_ok X G (c.fact 28 rfl), He.free_ok X G (c.fact 29 rfl), He.free_ok X G (c.fact 30 rfl), He.free_ok X G (c.fact 31 rfl), He.free_ok X G (c.fact 32 rfl), He.free_ok X G (c.fact 33 rfl), He.free_ok X G (c.fact 34 rfl), He.free_ok X G (c.fact 35 rfl)⟩
 obtain ⟨ce6_, ce6⟩ := He.ba (show (_ && _) = true from ce)
 obtain ⟨ce5_, ce5⟩ := He.ba (show (_ && _) = true from ce6_)
 obtain ⟨ce4_, ce4⟩ := He.ba (show (_ && _) = true from ce5_)
 obtain ⟨ce3_, ce3⟩ := He.ba (show (_ && _) = true from ce4_)
 obtain ⟨ce2_, ce2⟩ := He.ba (show (_ && _) = true from ce3_)
 obtain ⟨ce1_, ce1⟩ := He.ba (show (_ && _) = true from ce2_)
 have ce0 := ce1_
 have CN : Cs K mg := ⟨He.int_ok X G (c.fact 36 rfl), He.int_ok X G (c.fact 37 rfl), He.int_ok X G (c.fact 38 rfl), He.int_ok X G (c.fact 39 rfl), He.glo_ok X G (c.fact 48 rfl), of_decide_eq_true ce0, XK_InvalidReport, of_decide_eq_true ce1, He.glo_ok X G (c.fact 49 rfl), He.glo_ok X G (c.fact 50 rfl), He.glo_ok X G (c.fact 51 rfl), He.glo_ok X G (c.fact 52 rfl), He.glo_ok X G (c.fact 53 rfl), He.glo_ok X G (c.fact 54 rfl), of_decide_eq_true ce2, He.glo_ok X G (c.fact 55 rfl), He.glo_ok X G (c.fact 56 rfl), He.glo_ok X G (c.fact 57 rfl), He.glo_ok X G (c.fact 58 rfl), He.glo_ok X G (c.fact 59 rfl), He.glo_ok X G (c.fact 60 rfl), He.glo_ok X G (c.fact 61 rfl), of_decide_eq_true ce3, He.glo_ok X G (c.fact 62 rfl), He.glo_ok X G (c.fact 63 rfl), He.glo_ok X G (c.fact 64 rfl), He.glo_ok X G (c.fact 65 rfl), He.glo_ok X G (c.fact 66 rfl), He.glo_ok X G (c.fact 67 rfl), He.glo_ok X G (c.fact 68 rfl), He.glo_ok X G (c.fact 69 rfl), He.glo_ok X G (c.fact 70 rfl), of_decide_eq_true ce4, of_decide_eq_true ce5, He.free_ok X G (c.fact 71 rfl), of_decide_eq_true ce6⟩
 have T_Report : Tx K mg (He.ga K "Report") "Report" nm_Report := ⟨He.cls_ok (c.fact 41 rfl), He.glo_ok X G (c.fact 40 rfl), fun f hf => by
   simp only [List.mem_cons, List.not_mem_nil, or_false] at hf
   rcases hf with rfl | rfl | rfl | rfl | rfl
   · exact He.noat_ok (c.fact 42 rfl)
   · exact He.noat_ok (c.fact 43 rfl)
   · exact He.noat_ok (c.fact 44 rfl)
   · exact He.noat_ok (c.fact 45 rfl)
   · exact He.noat_ok (c.fact 46 rfl)⟩
 have C_ascending : Cal P w K mg "ascending" ["zone"] 1 (sp_ascending K) := ok_ascending B CN (dfn_of X G c 0 0 26 "ascending" rfl rfl)
 have C_is_zone : Cal P w K mg "is_zone" ["zone", "size"] 1 (sp_is_zone K) := ok_is_zone B CN (dfn_of X G c 1 1 27 "is_zone" rfl rfl)
 have I_Report : CalI P w K mg (He.ga K "Report") "Report.__init__" s_Report_init (kw_Report K) ["self", "ship", "hour", "zone", "weight", "inside"] 2 (sp_Report_init K (He.ga K "Report")) := ok_Report_init B CN T_Report C_ascending C_is_zone (dfnI_of c 2 2 "Report" "Report.__init__" s_Report_init [("weight", .int 1), ("inside", .bl true)] rfl rfl)
 have I_ReportX : CalIX P w K mg (He.ga K "Report") "Report.__init__" s_Report_init_x (kw_Report K) ["self", "ship", "hour", "zone", "weight", "inside"] 2 (sp_Report_init_x K (He.ga K "Report")) := ok_Report_init_x B CN T_Report T_InvalidReport C_ascending C_is_zone (dfnI_of c 2 2 "Report" "Report.__init__" s_Report_init_x [("weight", .int 1), ("inside", .bl true)] rfl rfl)
 have C_l_hand : Cal P w K mg "_law_hand" ["_law_script", "_law_k"] 1 (sp_l_hand K) := ok_l_hand B CN (dfn_of X G c 3 3 35 "_law_hand" rfl rfl)
 have C_l_pick : Cal P w K mg "_law_pick" ["_law_hand_here", "_law_size"] 1 (sp_l_pick K) := ok_l_pick B CN (dfn_of X G c 4 4 36 "_law_pick" rfl rfl)
 have C_l_int : Cal P w K mg "_law_int" ["_law_x"] 1 (sp_l_int K) := ok_l_int B CN (dfn_of X G c 5 5 37 "_law_int" rfl rfl)
 have C_l_places : Cal P w K mg "_law_places" ["_law_code"] 1 (sp_l_places K) := ok_l_places B CN (dfn_of X G c 6 6 38 "_law_places" rfl rfl)
 have C_l_turned : Cal P w K mg "_law_turned" ["_law_code", "_law_zone"] 1 (sp_l_turned K) := ok_l_turned B CN (dfn_of X G c 7 7 39 "_law_turned" rfl rfl)
 have C_l_flag : Cal P w K mg "_law_flag" ["_law_told", "_law_due"] 1 (sp_l_flag K) := ok_l_flag B CN (dfn_of X G c 8 8 40 "_law_flag" rfl rfl)
 have C_l_spoilt_zone : Cal P w K mg "_law_spoilt_zone" ["_law_hand_here", "_law_zone"] 2 (sp_l_spoilt_zone K) := ok_l_spoilt_zone B CN (dfn_of X G c 9 9 41 "_law_spoilt_zone" rfl rfl) C_l_pick
 have C_l_spoilt : Cal P w K mg "_law_spoilt" ["_law_hand_here", "_law_parts"] 3 (sp_l_spoilt K) := ok_l_spoilt B CN (dfn_of X G c 10 10 42 "_law_spoilt" rfl rfl) C_l_pick C_l_spoilt_zone
 have C_l_first_wrong : Cal P w K mg "_law_first_wrong" ["_law_parts"] 1 (sp_l_first_wrong K) := ok_l_first_wrong B CN (dfn_of X G c 11 11 43 "_law_first_wrong" rfl rfl)
 have C_l_handed : Cal P w K mg "_law_handed" ["_law_zone", "_law_form"] 1 (sp_l_handed K) := ok_l_handed B CN (dfn_of X G c 12 12 44 "_law_handed" rfl rfl)
 have C_l_refused : Cal P w K mg "_law_refused" ["_law_parts", "_law_form", "_law_says"] 4 (sp_l_refused K) := ok_l_refused B CN (dfn_of X G c 13 13 45 "_law_refused" rfl rfl) T_Report I_ReportX C_l_handed
 have C_l_by_base : Cal P w K mg "_law_by_base" ["_law_parts", "_law_form"] 4 (sp_l_by_base K) := ok_l_by_base B CN (dfn_of X G c 14 14 46 "_law_by_base" rfl rfl) T_Report I_ReportX C_l_handed
 have C_l_keeps : Cal P w K mg "_law_keeps" ["_law_report", "_law_parts", "_law_says"] 2 (sp_l_keeps K (He.ga K "Report")) := ok_l_keeps B CN (dfn_of X G c 15 15 47 "_law_keeps" rfl rfl) T_Report C_l_int C_l_flag
 have C_l_made : Cal P w K mg "_law_made" ["_law_parts", "_law_form", "_law_says"] 4 (sp_l_made K) := ok_l_made B CN (dfn_of X G c 16 16 48 "_law_made" rfl rfl) T_Report I_Report C_l_handed C_l_keeps
 have C_law : Cal P w K mg "law" ["_law_script"] 5 (sp_law K) := ok_law B CN (dfn_of X G c 17 17 49 "law" rfl rfl) C_l_hand C_l_pick C_l_places C_l_turned C_l_spoilt C_l_first_wrong C_l_refused C_l_by_base C_l_made
 exact fn_law hfa C_law
end G
open PySem PySem.W PySem.Calls PyProof.Rows
theorem PySem.Challenge.cw_fogfleet_k18_reports_refused_holds : PySem.Challenge.rw_fogfleet_k18_reports_refused.Holds := by
  w_on; o_law
  refine HandSHeadRun.head_any (r := OpenLaw.row PySem.Challenge.rw_fogfleet_k18_reports_refused) (q := view (OpenLaw.row PySem.Challenge.rw_fogfleet_k18_reports_refused).prog [49]) (H := G.hk) (ob := G.ob) (M := 40000) (loose := G.looseL) (d := HandSHeadRun.topDef (OpenLaw.row PySem.Challenge.rw_fogfleet_k18_reports_refused).prog 49) (kwd := []) G.ob_eq
    (by kernel_rfl) (fun s => by kernel_rfl) G.run (by kernel_rfl) (by kernel_rfl) (by kernel_rfl) (by rfl) (by first | assumption | decide +kernel) (by decide +kernel) ⟨rfl, rfl, rfl, rfl, rfl, by decide +kernel⟩ ?hw ?hc
  case hw => w_witness2
  case hc =>
    refine L2.walk_ofE (l := PySem.Challenge.rw_fogfleet_k18_reports_refused) (n := 63) (k := 5) (x := "_law_script") (CX := L2.CX0) rfl (by decide) (by kernel_rfl) ⟨rfl, by decide, by decide⟩ ?F (fun _ _ _ _ z => z)
    intro w mg fa h Y G0 hmg0
    obtain ⟨K, KX, c⟩ := Y
    have hmg : mg ("law" : PySem.Str) = some (.ref fa) := by
      have e : (HandSHeadRun.topDef (OpenLaw.row PySem.Challenge.rw_fogfleet_k18_reports_refused).prog 49).name = ("law" : PySem.Str) := by kernel_rfl
      rw [← e]
      exact hmg0
    obtain ⟨fd, hb, hF⟩ := G.facts (P := (PySem.Challenge.rw_fogfleet_k18_reports_refused).prog) (w := w) KX G0 c (by kernel_rfl) (by kernel_rfl) hmg
    exact ⟨K, fd, G.sp_law K, KX, hb, fun H a ns hl hO hS => ⟨_, ns, true, rfl, G.yScr_of hO hS, Mi.law_true ns hl, fun _ _ => rfl⟩, hF⟩

