import PyProof.Rows.All
import Wide.All
import OpenK.AllK
import Wide.FinOn
import HandS.ForMost
import HandS.ForExc
import HandS.Wide
import HandS.IsInst
import HandS.Flow
import HandS.Defaults
import HandS.SortInts
import HandS.Strs
import HandS.TupSets
import HandS.MakeKw
import HandS.MakeKwOnly
import HandS.Conv
import HandS.Steps
import KE.GoesMore
import HandS.Text
import HandS.Iter
import HandS.SortRule
import HandS.TupLe
import HandS.HeadHook1
import HandS.HeadHook2
import HandS.Deep
import KE.KRevSl
import HandS.Rev
import HandS.RevTup
import HandS.IterVal
import HandS.OwnIter
import KE.KSuper
import KE.KExcSuper
import KE.KExcIs
import HandS.ExcField
import HandS.ExcOwn
import HandS.WordsExc
import HandS.Head0
import HandS.FStr
import HandS.Star
import PyProof.Rows.MatchSeqLen
import HandS.More
import HandS.Zip
import KE.GoesEnumKw
import HandS.HeadHook3
import KE.GoesEnum
import HandS.DeepEq
import KE.GoesZip
import HandS.GenCall
import HandS.GenList
import HandS.ExcCtx
import HandS.HotCalls
import KE.DataCmp
import HandS.SortKw
import HandS.DictComp
import HandS.SetBool
import HandS.DictTup
import KE.KDictPairs
import HandS.SortOrd
import HandS.Head1
import HandS.Head2
import HandS.TupAny
import PyProof.NeKinds
import HandS.ListEq
import KE.KBits
import HandS.WideBits
import HandS.Dict
import HandS.DictSubView
import KE.KDictList
import HandS.RevRange
import KE.KAssignIn
import KE.KCallOwn
import KE.KDictZip
import HandS.List
import HandS.Flt
import KE.KDictDisplayH
import HandS.WordsDict
import KE.SortCalls
import KE.KLam
import KE.SortKeyHeap
import HandS.Lambda
import PyProof.CodeObj
import HandS.HeadEnd
import HandS.HeadWalk
import HandS.Nested
import KE.GoesCell
import HandS.Codes
import KE.KUnpack
import KE.KStateDown
import PyProof.ByEval2
import Lean
import PySem.Challenge.RW_fogfleet_k46_parse_deeds
set_option Elab.async false
set_option linter.all false
set_option synthInstance.maxSize 1000
set_option maxRecDepth 100000
set_option maxHeartbeats 4000000
namespace Mi
def pyLet {α β : Type} (e : α) (f : α → β) : β := f e
def ixN (n : Nat) (i : Int) : Option Nat := if 0 ≤ i then (if i < n then some i.toNat else none) else if -(n : Int) ≤ i then some (i + n).toNat else none
def at_ {α : Type} (xs : List α) (i : Int) : Option α := (ixN xs.length i).bind fun j => xs[j]?
def setAt {α : Type} (xs : List α) (i : Int) (x : α) : Option (List α) := (ixN xs.length i).bind fun j => some (xs.set j x)
def sIx (n d : Nat) : Option Int → Nat
 | none => d
 | some v => if v < 0 then (v + (n : Int)).toNat else min v.toNat n
def cut {α : Type} (xs : List α) (lo hi : Option Int) : List α := (xs.drop (sIx xs.length 0 lo)).take (sIx xs.length xs.length hi - sIx xs.length 0 lo)
def big : Nat := 1000000
def app {α : Type} (xs : List α) (x : α) : Option (List α) := if xs.length < big then some (xs ++ [x]) else none
def cat {α : Type} (xs ys : List α) : Option (List α) := if xs.length + ys.length ≤ big then some (xs ++ ys) else none
def mul (i j : Int) : Option Int := if (-(2 ^ 64) < i ∧ i < 2 ^ 64) ∨ (-(2 ^ 64) < j ∧ j < 2 ^ 64) then some (i * j) else none
def mod (i j : Int) : Option Int := if 0 < j then some (i % j) else none
def fdiv (i j : Int) : Option Int := if 0 < j ∧ j < 2 ^ 200 then some (i / j) else none
def guardO (c : Bool) : Option Unit := if c = true then some () else none
def rng (lo hi : Int) : List Int := (List.range (hi - lo).toNat).map fun (k : Nat) => lo + (k : Int)
def forN {α σ : Type} (f : σ → α → Option σ) : σ → List α → Option σ
 | s, [] => some s
 | s, x :: xs => (f s x).bind fun s' => forN f s' xs
def forR {α σ ρ : Type} (f : σ → α → Option (ρ ⊕ σ)) : σ → List α → Option (ρ ⊕ σ)
 | s, [] => some (.inr s)
 | s, x :: xs => (f s x).bind fun
   | .inl r => some (.inl r)
   | .inr s' => forR f s' xs
theorem bnd {α β : Type} {m : Option α} {f : α → Option β} {r : β} (h : m.bind f = some r) : ∃ x, m = some x ∧ f x = some r := by
 cases m with
 | none => cases h
 | some x => exact ⟨x, rfl, h⟩
theorem letE {α β : Type} {e : α} {f : α → Option β} {r : Option β} (h : pyLet e f = r) : ∃ x, e = x ∧ f x = r := ⟨e, rfl, h⟩
theorem ifT {α : Type} {b : Bool} {x y : Option α} {r : Option α} (hb : b = true) (h : (if b = true then x else y) = r) : x = r := by
 rw [if_pos hb] at h; exact h
theorem ifF {α : Type} {b : Bool} {x y : Option α} {r : Option α} (hb : b = false) (h : (if b = true then x else y) = r) : y = r := by
 rw [hb, if_neg Bool.false_ne_true] at h; exact h
end Mi
namespace Mi
def rngO (lo hi : Int) : Option (List Int) := if (-(2 ^ 60) ≤ lo ∧ lo < 2 ^ 60) ∧ (-(2 ^ 60) ≤ hi ∧ hi < 2 ^ 60) then some (rng lo hi) else none
theorem forN_go {α σ : Type} {f : σ → α → Option σ} {s e : σ} {xs : List α} {i : Nat} {x : α} (h : forN f s (xs.drop i) = some e) (hx : xs[i]? = some x) : ∃ s', f s x = some s' ∧ forN f s' (xs.drop (i + 1)) = some e := by
 have hi : i < xs.length := (List.getElem?_eq_some_iff.mp hx).1
 have e1 : xs.drop i = x :: xs.drop (i + 1) := by
   rw [List.drop_eq_getElem_cons hi]
   congr 1
   exact (List.getElem?_eq_some_iff.mp hx).2
 rw [e1] at h
 exact bnd h
theorem forN_end {α σ : Type} {f : σ → α → Option σ} {s e : σ} {xs : List α} (h : forN f s (xs.drop xs.length) = some e) : s = e := by
 rw [List.drop_length] at h
 exact Option.some.inj h
theorem forR_go {α σ ρ : Type} {f : σ → α → Option (ρ ⊕ σ)} {s : σ} {e : ρ ⊕ σ} {xs : List α} {i : Nat} {x : α} (h : forR f s (xs.drop i) = some e) (hx : xs[i]? = some x) :
   ∃ o, f s x = some o ∧ ((∃ r, o = .inl r ∧ e = .inl r) ∨ ∃ s', o = .inr s' ∧ forR f s' (xs.drop (i + 1)) = some e) := by
 have hi : i < xs.length := (List.getElem?_eq_some_iff.mp hx).1
 have e1 : xs.drop i = x :: xs.drop (i + 1) := by
   rw [List.drop_eq_getElem_cons hi]
   congr 1
   exact (List.getElem?_eq_some_iff.mp hx).2
 rw [e1] at h
 obtain ⟨o, h1, h2⟩ := bnd h
 refine ⟨o, h1, ?_⟩
 cases o with
 | inl r => exact .inl ⟨r, rfl, (Option.some.inj h2).symm⟩
 | inr s' => exact .inr ⟨s', rfl, h2⟩
theorem forR_end {α σ ρ : Type} {f : σ → α → Option (ρ ⊕ σ)} {s : σ} {e : ρ ⊕ σ} {xs : List α} (h : forR f s (xs.drop xs.length) = some e) : e = .inr s := by
 rw [List.drop_length] at h
 exact (Option.some.inj h).symm
end Mi
namespace Mi
def orR {ρ σ : Type} (o : ρ ⊕ σ) (k : σ → Option ρ) : Option ρ := match o with
 | .inl r => some r
 | .inr s => k s
def orL {ρ σ τ : Type} (o : ρ ⊕ σ) (k : σ → Option (ρ ⊕ τ)) : Option (ρ ⊕ τ) := match o with
 | .inl r => some (.inl r)
 | .inr s => k s
theorem orR_inl {ρ σ : Type} {r q : ρ} {k : σ → Option ρ} (h : orR (.inl r) k = some q) : some r = some q := h
theorem orR_inr {ρ σ : Type} {s : σ} {q : ρ} {k : σ → Option ρ} (h : orR (.inr s) k = some q) : k s = some q := h
theorem orL_inl {ρ σ τ : Type} {r : ρ} {q : ρ ⊕ τ} {k : σ → Option (ρ ⊕ τ)} (h : orL (.inl r) k = some q) : some (.inl r) = some q := h
theorem orL_inr {ρ σ τ : Type} {s : σ} {q : ρ ⊕ τ} {k : σ → Option (ρ ⊕ τ)} (h : orL (.inr s) k = some q) : k s = some q := h
theorem or_inl {ρ σ : Type} {r : ρ} {e : ρ ⊕ σ} {P : σ → Prop} (h : (∃ r', (Sum.inl r : ρ ⊕ σ) = .inl r' ∧ e = .inl r') ∨ ∃ s', (Sum.inl r : ρ ⊕ σ) = .inr s' ∧ P s') : e = .inl r := by
 rcases h with ⟨r', h1, h2⟩ | ⟨s', h1, _⟩
 · cases h1; exact h2
 · cases h1
theorem or_inr {ρ σ : Type} {s : σ} {e : ρ ⊕ σ} {P : σ → Prop} (h : (∃ r', (Sum.inr s : ρ ⊕ σ) = .inl r' ∧ e = .inl r') ∨ ∃ s', (Sum.inr s : ρ ⊕ σ) = .inr s' ∧ P s') : P s := by
 rcases h with ⟨r', h1, h2⟩ | ⟨s', h1, h2⟩
 · cases h1
 · cases h1; exact h2
end Mi
namespace Mi
def enumF {α : Type} : Int → List α → List (Int × α)
 | _, [] => []
 | k, x :: xs => (k, x) :: enumF (k + 1) xs
end Mi
namespace Mi
def sLen (s : List Nat) : Option Int := if s.length ≤ big then some (s.length : Int) else none
def sAt (s : List Nat) (i : Int) : Option (List Nat) := if s.length ≤ big then (at_ s i).map fun c => [c] else none
def sCut (s : List Nat) (lo hi : Option Int) : Option (List Nat) := if s.length ≤ big then some (cut s lo hi) else none
def sCat (a b : List Nat) : Option (List Nat) := if a.length + b.length ≤ big then some (a ++ b) else none
def sIn (a s : List Nat) : Option Bool := match a with
 | [c] => some (s.contains c)
 | _ => none
def joinL (sep : List Nat) : List (List Nat) → List Nat
 | [] => []
 | [p] => p
 | p :: q :: r => p ++ (sep ++ joinL sep (q :: r))
def sJoin (sep : List Nat) (xs : List (List Nat)) : Option (List Nat) := if (xs.map (·.length)).sum + xs.length * sep.length ≤ big then some (joinL sep xs) else none
def signs (s : List Nat) : List (List Nat) := s.map fun c => [c]
def okS (s : List Nat) : Bool := s.all fun c => decide (c < 1114112)
def bI (b : Bool) : Int := if b = true then 1 else 0
end Mi
namespace Mi
end Mi
namespace Mi
def ext {α : Type} (xs ys : List α) : Option (List α) := if xs.length + ys.length ≤ big then some (xs ++ ys) else none
end Mi
namespace Mi
def sRep (s : List Nat) (k : Int) : Option (List Nat) := if -(2 ^ 60) ≤ k ∧ k < 2 ^ 60 ∧ s.length * k.toNat ≤ big then some (List.replicate k.toNat s).flatten else none
end Mi
namespace Mi
def tryX {ε α β : Type} (q : ε ⊕ α) (f : ε → Option β) (g : α → Option β) : Option β := match q with
 | .inl y => f y
 | .inr a => g a
theorem tryL {ε α β : Type} {y : ε} {f : ε → Option β} {g : α → Option β} {r : Option β} (h : tryX (.inl y) f g = r) : f y = r := h
theorem tryR {ε α β : Type} {a : α} {f : ε → Option β} {g : α → Option β} {r : Option β} (h : tryX (.inr a) f g = r) : g a = r := h
end Mi
namespace Mi
end Mi
namespace Mi
def asL {α β : Type} : α ⊕ β → Option α
 | .inl a => some a
 | .inr _ => none
def asR {α β : Type} : α ⊕ β → Option β
 | .inr b => some b
 | .inl _ => none
end Mi
namespace Mi
def sInt (i : Int) : List Nat := (toString i).toList.map Char.toNat
def sOfI (i : Int) : Option (List Nat) := if i.natAbs < 10 ^ 15 then some (sInt i) else none
end Mi
namespace Mi
end Mi
namespace Mi
abbrev U5 : Type := Int ⊕ List Nat ⊕ Bool ⊕ List Int ⊕ List Bool
def isi5 (b1 b2 b3 b4 : Bool) : U5 → Bool
 | .inl _ => b1
 | .inr (.inl _) => b2
 | .inr (.inr (.inl _)) => b3
 | .inr (.inr (.inr _)) => b4
def isi2 (b1 b2 : Bool) : Int ⊕ Bool → Bool
 | .inl _ => b1
 | .inr _ => b2
def eq5 : U5 → U5 → Option Bool
 | .inl i, .inl j => some (decide (i = j))
 | .inr (.inl a), .inr (.inl b) => some (decide (a = b))
 | .inr (.inr (.inl a)), .inr (.inr (.inl b)) => some (decide (a = b))
 | _, _ => none
def eq2 : Int ⊕ Bool → Int ⊕ Bool → Option Bool
 | .inl i, .inl j => some (decide (i = j))
 | .inr a, .inr b => some (decide (a = b))
 | _, _ => none
def len5 : U5 → Option Int
 | .inr (.inr (.inr (.inl xs))) => some (xs.length : Int)
 | .inr (.inr (.inr (.inr xs))) => some (xs.length : Int)
 | _ => none
def it5 (d : U5) (i : Int) : Option (Int ⊕ Bool) := match d with
 | .inr (.inr (.inr (.inl xs))) => (at_ xs i).map .inl
 | .inr (.inr (.inr (.inr xs))) => (at_ xs i).map .inr
 | _ => none
def optX {α β : Type} (z : Option α) (f : α → Option β) (g : Option β) : Option β := match z with
 | some a => f a
 | none => g
theorem optS {α β : Type} {a : α} {f : α → Option β} {g r : Option β} (h : optX (some a) f g = r) : f a = r := h
theorem optN {α β : Type} {f : α → Option β} {g r : Option β} (h : optX none f g = r) : g = r := h
def unc {α : Type} : List α → Option (α × List α)
 | x :: xs => some (x, xs)
 | [] => none
end Mi
namespace Mi
end Mi
namespace Mi
end Mi
namespace Mi
end Mi
namespace Mi
def yld {β : Type} [DecidableEq β] (tot : List β) (y : Int) (d : β) : Option Int := if 0 ≤ y ∧ tot[y.toNat]? = some d then some (y + 1) else none
end Mi
namespace Mi
end Mi
namespace Mi
end Mi
namespace Mi
end Mi
namespace Mi
end Mi
namespace Mi
end Mi
namespace Mi
def sNum (s : List Nat) : Option Int := if (s.all (fun c => decide (48 ≤ c) && decide (c ≤ 57)) && (!s.isEmpty && decide (s.length ≤ 600))) = true then some ((s.foldl (fun acc c => acc * 10 + (c - 48)) 0 : Nat) : Int) else none
def splC (c : Nat) : List Nat → List Nat → List (List Nat)
 | acc, [] => [acc]
 | acc, x :: r => if x = c then acc :: splC c [] r else splC c (acc ++ [x]) r
def sSplit (s sep : List Nat) : Option (List (List Nat)) := match sep with
 | [c] => if c < 256 ∧ s.length < big then some (splC c [] s) else none
 | _ => none
def upC (c : Nat) : Nat := if 97 ≤ c ∧ c ≤ 122 then c - 32 else c
def sUp (s : List Nat) : Option (List Nat) := if (s.all (fun c => decide (c < 128)) && decide (s.length ≤ big)) = true then some (s.map upC) else none
def dGetB (d : List (List Nat × Bool)) (z : List Nat) : Option Bool := (d.find? (fun p => p.1 == z)).map (·.2)
def dHasB (d : List (List Nat × Bool)) (z : List Nat) : Bool := d.any (fun p => p.1 == z)
def okO {α : Type} (p : α → Bool) : Option α → Bool
 | none => true
 | some x => p x
def somes {α : Type} : List (Option α) → Option (List α)
 | [] => some []
 | none :: _ => none
 | some x :: r => (somes r).bind fun ys => some (x :: ys)
end Mi
namespace Mi
def msL : List (Option (List Nat)) → List (List Nat) → Option (List (List Nat))
 | [], [] => some []
 | some l :: sp, y :: ys => if y = l then msL sp ys else none
 | none :: sp, y :: ys => (msL sp ys).map (y :: ·)
 | _, _ => none
def msq (sp : List (Option (List Nat))) (xs : List (List Nat)) : Option (Option (List (List Nat))) := some (msL sp xs)
theorem unc_eq {α : Type} {ys : List α} {p : α × List α} (h : unc ys = some p) : ys = p.1 :: p.2 := by
 cases ys with
 | nil => cases h
 | cons y ys => obtain rfl := Option.some.inj h; rfl
theorem msL_len : ∀ {sp : List (Option (List Nat))} {xs : List (List Nat)}, xs.length ≠ sp.length → msL sp xs = none
 | [], [], h => absurd rfl h
 | [], _ :: _, _ => rfl
 | some l :: sp, [], _ => rfl
 | none :: sp, [], _ => rfl
 | some l :: sp, y :: ys, h => by
   show (if y = l then msL sp ys else none) = none
   rw [msL_len (fun e => h (by rw [List.length_cons, List.length_cons, e]))]
   exact ite_self _
 | none :: sp, y :: ys, h => by
   show (msL sp ys).map (y :: ·) = none
   rw [msL_len (fun e => h (by rw [List.length_cons, List.length_cons, e]))]; rfl
end Mi
namespace Mi
def ok5 : U5 → Bool := Sum.elim (fun _ => true) (Sum.elim okS (Sum.elim (fun _ => true) (Sum.elim (fun xs => xs.all fun _ => true) (fun xs => xs.all fun _ => true))))
def eqTx (s : List Nat) : Option U5 → Bool
 | some (.inr (.inl l)) => decide (l = s)
 | _ => false
end Mi
namespace Mi
def prSL {α β γ : Type} (d : γ × (α ⊕ β)) : Option (γ × α) := match d.2 with
 | .inl a => some (d.1, a)
 | .inr _ => none
def prSR {α β γ : Type} (d : γ × (α ⊕ β)) : Option (γ × β) := match d.2 with
 | .inl _ => none
 | .inr b => some (d.1, b)
def prSO {α γ : Type} (d : γ × Option α) : Option (γ × α) := d.2.bind fun a => some (d.1, a)
end Mi
namespace Mi
def m_read_number_b1  (s7 : Unit) (x10 : (List Nat)) : Option ((Option Int) ⊕ Unit) :=
 (sIn x10 ([48, 49, 50, 51, 52, 53, 54, 55, 56, 57] : List Nat)).bind fun b13 =>
 if (!b13) = true then
 (some (.inl (none : (Option Int))))
 else
 some (.inr ())
def m_read_number (d0 : (List Nat)) (d1 : Int) : Option (Option Int) :=
 (if (decide (d0 = ([] : List Nat))) = true then some true else (sLen d0).bind fun x4 => some (decide (d1 < x4))).bind fun b5 =>
 if b5 = true then
 (some (none : (Option Int)))
 else
 (forR (m_read_number_b1) () (Mi.signs d0)).bind fun e6 => orR e6 fun s7 =>
 (sLen d0).bind fun x14 =>
 (if (decide ((1 : Int) < x14)) = true then (sAt d0 (0 : Int)).bind fun x16 => some (decide (x16 = ([48] : List Nat))) else some false).bind fun b17 =>
 if b17 = true then
 (some (none : (Option Int)))
 else
 (sNum d0).bind fun x18 =>
 some (some x18)
def m_read_limited (d0 : (List Nat)) (d1 : Int) (d2 : Int) : Option (Option Int) :=
 (m_read_number d0 d1).bind fun q4 =>
 (if q4.isNone = true then some true else (q4).bind fun x10 => some (decide (d2 < x10))).bind fun b11 =>
 if b11 = true then
 (some (none : (Option Int)))
 else
 some q4
def m_read_zone_b1  (s22 : (List Int)) (x26 : (List Nat)) : Option ((Option (List Int)) ⊕ (List Int)) :=
 (m_read_limited x26 (2 : Int) (11 : Int)).bind fun q31 =>
 (if q31.isNone = true then some true else (if (!s22.isEmpty) = true then (at_ s22 (-(1 : Int))).bind fun x38 => (q31).bind fun x39 => some (decide (x39 ≤ x38)) else some false).bind fun b40 => some b40).bind fun b41 =>
 if b41 = true then
 (some (.inl (none : (Option (List Int)))))
 else
 (q31).bind fun x42 =>
 (app s22 x42).bind fun x43 =>
 some (.inr x43)
def m_read_zone (d0 : (List Nat)) : Option (Option (List Int)) :=
 if (decide (d0 = ([45] : List Nat))) = true then
 (some (some ([] : (List Int))))
 else
 (sSplit d0 ([44] : List Nat)).bind fun x13 =>
 (forR (m_read_zone_b1) ([] : (List Int)) x13).bind fun e21 => orR e21 fun s22 =>
 some (some s22)
def m_split_words (d0 : (List Nat)) : Option (List (List Nat)) :=
 (sSplit d0 ([32] : List Nat)).bind fun x2 =>
 some x2
def m_text_lines (d0 : (List Nat)) : Option (List (List Nat)) :=
 if (decide (d0 = ([] : List Nat))) = true then
 (some ([] : (List (List Nat))))
 else
 (sSplit d0 ([10] : List Nat)).bind fun x8 =>
 some x8
def m_read_report (d0 : (List Nat)) (d1 : (List Nat)) (d2 : (List Nat)) (d3 : (List Nat)) (d4 : (List Nat)) : Option (Option (List (Int ⊕ (List Nat) ⊕ Bool ⊕ (List Int) ⊕ (List Bool)))) :=
 (m_read_zone d3).bind fun q6 =>
 (m_read_limited d0 (3 : Int) (3 : Int)).bind fun q11 =>
 (m_read_limited d1 (3 : Int) (999 : Int)).bind fun q16 =>
 (m_read_limited d4 (3 : Int) (99 : Int)).bind fun q27 =>
 ((guardO ([q11, q16].all (Mi.okO (fun _ => true)))).bind fun z33 => if ([q11, q16].any (·.isNone)) = true then some true else  if q6.isNone = true then some true else  if (!Mi.dHasB ([(([105, 110] : List Nat), true), (([111, 117, 116] : List Nat), false)] : List (List Nat × Bool)) d2) = true then some true else  if q27.isNone = true then some true else (q27).bind fun x34 => some (decide (x34 = (0 : Int))) : Option Bool).bind fun b32 =>
 if b32 = true then
 (some (none : (Option (List (Int ⊕ (List Nat) ⊕ Bool ⊕ (List Int) ⊕ (List Bool))))))
 else
 (somes [q11, q16]).bind fun x35 =>
 (dGetB ([(([105, 110] : List Nat), true), (([111, 117, 116] : List Nat), false)] : List (List Nat × Bool)) d2).bind fun x40 =>
 (q6).bind fun x41 =>
 (q27).bind fun x43 =>
 (guardO (decide (((x35).map Sum.inl : (List (Int ⊕ (List Nat) ⊕ Bool ⊕ (List Int) ⊕ (List Bool)))).length ≤ 1000))).bind fun z44 =>
 some (some ((.inr (.inl ([114, 101, 112, 111, 114, 116] : List Nat))) :: ((x35.map Sum.inl) ++ [(.inr (.inr (.inr (.inl x41)))), (.inr (.inr (.inl x40))), (.inl x43)]) : (List (Int ⊕ (List Nat) ⊕ Bool ⊕ (List Int) ⊕ (List Bool)))))
def m_read_withdrawal (d0 : (List Nat)) : Option (Option (List (Int ⊕ (List Nat) ⊕ Bool ⊕ (List Int) ⊕ (List Bool)))) :=
 (m_read_limited d0 (3 : Int) (999 : Int)).bind fun q2 =>
 if q2.isNone = true then
 (some (none : (Option (List (Int ⊕ (List Nat) ⊕ Bool ⊕ (List Int) ⊕ (List Bool))))))
 else
 (q2).bind fun x7 =>
 some (some ([(.inr (.inl ([119, 105, 116, 104, 100, 114, 97, 119] : List Nat))), (.inl x7)] : (List (Int ⊕ (List Nat) ⊕ Bool ⊕ (List Int) ⊕ (List Bool)))))
def m_read_flags_b1  (s6 : (List (Option Bool))) (x15 : (List Nat)) : Option (List (Option Bool)) :=
 (app s6 (Mi.dGetB ([(([121] : List Nat), true), (([110] : List Nat), false)] : List (List Nat × Bool)) x15)).bind fun x24 =>
 some x24
def m_read_flags (d0 : (List Nat)) : Option (Option (List Bool)) :=
 (if (decide (d0 = ([] : List Nat))) = true then some true else (sLen d0).bind fun x3 => some (decide ((4 : Int) < x3))).bind fun b4 =>
 if b4 = true then
 (some (none : (Option (List Bool))))
 else
 (forN (m_read_flags_b1) ([] : (List (Option Bool))) (Mi.signs d0)).bind fun s6 =>
 (guardO (s6.all (Mi.okO (fun _ => true)))).bind fun z27 =>
 if (s6.any (·.isNone)) = true then
 (some (none : (Option (List Bool))))
 else
 (somes s6).bind fun x28 =>
 some (some x28)
def m_read_receipt (d0 : (List Nat)) (d1 : (List Nat)) (d2 : (List Nat)) (d3 : (List Nat)) : Option (Option (List (Int ⊕ (List Nat) ⊕ Bool ⊕ (List Int) ⊕ (List Bool)))) :=
 (m_read_limited d0 (3 : Int) (5 : Int)).bind fun q5 =>
 (m_read_limited d1 (3 : Int) (6 : Int)).bind fun q10 =>
 (m_read_limited d2 (3 : Int) (999 : Int)).bind fun q21 =>
 (app [q5, q10] q21).bind fun x26 =>
 (m_read_flags d3).bind fun q29 =>
 ((guardO (x26.all (Mi.okO (fun _ => true)))).bind fun z35 => if (x26.any (·.isNone)) = true then some true else some q29.isNone : Option Bool).bind fun b34 =>
 if b34 = true then
 (some (none : (Option (List (Int ⊕ (List Nat) ⊕ Bool ⊕ (List Int) ⊕ (List Bool))))))
 else
 (somes x26).bind fun x36 =>
 (q29).bind fun x41 =>
 (guardO (decide (((x36).map Sum.inl : (List (Int ⊕ (List Nat) ⊕ Bool ⊕ (List Int) ⊕ (List Bool)))).length ≤ 1000))).bind fun z43 =>
 some (some ((.inr (.inl ([114, 101, 99, 101, 105, 118, 101] : List Nat))) :: ((x36.map Sum.inl) ++ [(.inr (.inr (.inr (.inr x41))))]) : (List (Int ⊕ (List Nat) ⊕ Bool ⊕ (List Int) ⊕ (List Bool)))))
def m_read_deed (d0 : (List Nat)) : Option (Option (List (Int ⊕ (List Nat) ⊕ Bool ⊕ (List Int) ⊕ (List Bool)))) :=
 (m_split_words d0).bind fun q2 =>
 (msq [some ([114, 101, 112, 111, 114, 116] : List Nat), none, some ([97, 116] : List Nat), none, none, none, some ([119, 101, 105, 103, 104, 116] : List Nat), none] q2).bind fun z10 => optX z10 (fun ys11 =>
 (unc ys11).bind fun p13 =>
 (unc p13.2).bind fun p14 =>
 (unc p14.2).bind fun p15 =>
 (unc p15.2).bind fun p16 =>
 (unc p16.2).bind fun p17 =>
 (m_read_report p13.1 p14.1 p15.1 p16.1 p17.1).bind fun q18 =>
 some q18) <|
 (msq [some ([114, 101, 99, 101, 105, 118, 101] : List Nat), none, some ([101, 118, 101, 110, 116] : List Nat), none, some ([97, 116] : List Nat), none, none] q2).bind fun z23 => optX z23 (fun ys24 =>
 (unc ys24).bind fun p26 =>
 (unc p26.2).bind fun p27 =>
 (unc p27.2).bind fun p28 =>
 (unc p28.2).bind fun p29 =>
 (m_read_receipt p26.1 p27.1 p28.1 p29.1).bind fun q30 =>
 some q30) <|
 (msq [some ([119, 105, 116, 104, 100, 114, 97, 119] : List Nat), none] q2).bind fun z35 => optX z35 (fun ys36 =>
 (unc ys36).bind fun p38 =>
 (m_read_withdrawal p38.1).bind fun q39 =>
 some q39) <|
 some (none : (Option (List (Int ⊕ (List Nat) ⊕ Bool ⊕ (List Int) ⊕ (List Bool)))))
def m_parse_deeds_b1  (s18 : (List (List (Int ⊕ (List Nat) ⊕ Bool ⊕ (List Int) ⊕ (List Bool))))) (x23 : (Int × (List Nat))) : Option (List (List (Int ⊕ (List Nat) ⊕ Bool ⊕ (List Int) ⊕ (List Bool)))) :=
 (m_read_deed x23.2).bind fun q29 =>
 if q29.isNone = true then
 (none)
 else
 (q29).bind fun x34 =>
 (app s18 x34).bind fun x36 =>
 some x36
def m_parse_deeds (d0 : (List Nat)) : Option (List (List (Int ⊕ (List Nat) ⊕ Bool ⊕ (List Int) ⊕ (List Bool)))) :=
 (m_text_lines d0).bind fun q8 =>
 (forN (m_parse_deeds_b1) ([] : (List (List (Int ⊕ (List Nat) ⊕ Bool ⊕ (List Int) ⊕ (List Bool))))) (Mi.enumF 0 q8)).bind fun s18 =>
 some s18
def m_parse_deeds_x_b1  (s18 : (List (List (Int ⊕ (List Nat) ⊕ Bool ⊕ (List Int) ⊕ (List Bool))))) (x23 : (Int × (List Nat))) : Option ((Int ⊕ (List (List (Int ⊕ (List Nat) ⊕ Bool ⊕ (List Int) ⊕ (List Bool))))) ⊕ (List (List (Int ⊕ (List Nat) ⊕ Bool ⊕ (List Int) ⊕ (List Bool))))) :=
 (m_read_deed x23.2).bind fun q30 =>
 if q30.isNone = true then
 ((sOfI (x23.1 + (1 : Int))).bind fun z35 =>
 some (.inl (.inl (x23.1 + (1 : Int)))))
 else
 (q30).bind fun x36 =>
 (app s18 x36).bind fun x38 =>
 some (.inr x38)
def m_parse_deeds_x (d0 : (List Nat)) : Option (Int ⊕ (List (List (Int ⊕ (List Nat) ⊕ Bool ⊕ (List Int) ⊕ (List Bool))))) :=
 (m_text_lines d0).bind fun q8 =>
 (forR (m_parse_deeds_x_b1) ([] : (List (List (Int ⊕ (List Nat) ⊕ Bool ⊕ (List Int) ⊕ (List Bool))))) (Mi.enumF 0 q8)).bind fun e17 => orR e17 fun s18 =>
 some (.inr s18)
def m_l_hand (d0 : (List Int)) (d1 : Int) : Option (List Int) :=
 pyLet ((0 : Int) : Int) fun cell3 =>
 (if (decide (d1 < (d0.length : Int))) = true then ((at_ d0 d1).bind fun x5 =>
 pyLet (x5 : Int) fun cell6 =>
 some cell6) else (some cell3) : Option Int).bind fun s4 =>
 (if (decide (s4 < (0 : Int))) = true then (pyLet (((1 : Int) - ((2 : Int) * s4)) : Int) fun cell8 =>
 some cell8) else (some s4) : Option Int).bind fun s7 =>
 pyLet ((0 : Int) : Int) fun rest9 =>
 (if (decide (((10 : Int) ^ 18) ≤ s7)) = true then (pyLet (s7 : Int) fun rest11 =>
 some rest11) else (some rest9) : Option Int).bind fun s10 =>
 some [s10, (((s7 + ((7919 : Int) * d1)) + (13 : Int)) % (2147483647 : Int)), (0 : Int)]
def m_l_pick (d0 : (List Int)) (d1 : Int) : Option (Int × (List Int)) :=
 if (decide (d1 < (1 : Int))) = true then
 (some ((0 : Int), d0))
 else
 (at_ d0 (0 : Int)).bind fun x3 =>
 if (decide ((0 : Int) < x3)) = true then
 ((at_ d0 (0 : Int)).bind fun x4 =>
 (mod x4 d1).bind fun x5 =>
 pyLet (x5 : Int) fun digit6 =>
 (at_ d0 (0 : Int)).bind fun x7 =>
 (fdiv x7 d1).bind fun x8 =>
 (setAt d0 (0 : Int) x8).bind fun x9 =>
 some (digit6, x9))
 else
 (at_ d0 (2 : Int)).bind fun x12 =>
 (setAt d0 (2 : Int) (x12 + (1 : Int))).bind fun x13 =>
 (at_ x13 (1 : Int)).bind fun x16 =>
 (at_ x13 (2 : Int)).bind fun x17 =>
 pyLet ((((x16 + ((7919 : Int) * x17)) + (13 : Int)) % (2147483647 : Int)) : Int) fun mixed18 =>
 (mul mixed18 (mixed18 + (48271 : Int))).bind fun x19 =>
 pyLet ((x19 % (2147483629 : Int)) : Int) fun mixed20 =>
 (mul mixed20 (mixed20 + (69621 : Int))).bind fun x21 =>
 (at_ x13 (2 : Int)).bind fun x22 =>
 pyLet (((x21 + ((31 : Int) * x22)) % (2147483647 : Int)) : Int) fun mixed23 =>
 (mod (mixed23 / (9 : Int)) d1).bind fun x24 =>
 some (x24, x13)
def m_l_int_0 (d0 : Int) : Option Bool :=
 some (true && (!false))
def m_l_int_1 (d0 : (Option Int)) : Option Bool :=
 some ((d0.isSome && true) && (!(d0.isSome && false)))
def m_l_int_2 (d0 : (Int ⊕ Bool)) : Option Bool :=
 some ((Mi.isi2 true true d0) && (!(Mi.isi2 false true d0)))
def m_l_int_3 (d0 : (Int ⊕ (List Nat) ⊕ Bool ⊕ (List Int) ⊕ (List Bool))) : Option Bool :=
 some ((Mi.isi5 true false true false d0) && (!(Mi.isi5 false false true false d0)))
def m_l_some_b1 (d2 : Int) (s13 : ((List Int) × (List Int))) (x16 : Int) : Option ((List Int) × (List Int)) :=
 ((m_l_pick s13.1 d2).bind fun q19 =>
 if (decide (q19.1 = (0 : Int))) = true then ((app s13.2 x16).bind fun x22 =>
 some (q19.2, x22)) else (some (q19.2, s13.2)) : Option ((List Int) × (List Int))).bind fun s18 =>
 some (s18.1, s18.2)
def m_l_some (d0 : (List Int)) (d1 : Int) (d2 : Int) : Option ((List Int) × (List Int)) :=
 (rngO 0 d1).bind fun g11 =>
 (forN (m_l_some_b1 d2) (d0, ([] : (List Int))) g11).bind fun s13 =>
 some (s13.2, s13.1)
def m_l_alike_v2 (d0 : (Int ⊕ Bool)) (d1 : (Int ⊕ Bool)) : Option Bool :=
 if (Mi.isi2 false true d1) = true then
 (( if (Mi.isi2 false true d0) = true then (eq2 d0 d1).bind fun b4 => some b4 else some false : Option Bool).bind fun b3 =>
 some b3)
 else
 if (Mi.isi2 true true d1) = true then
 (((m_l_int_2 d0).bind fun q6 => if q6 = true then (eq2 d0 d1).bind fun b9 => some b9 else some false : Option Bool).bind fun b5 =>
 some b5)
 else
 none
def m_l_alike_v5_b1 (d0 : (Int ⊕ (List Nat) ⊕ Bool ⊕ (List Int) ⊕ (List Bool))) (d1 : (Int ⊕ (List Nat) ⊕ Bool ⊕ (List Int) ⊕ (List Bool))) (s19 : Unit) (x22 : Int) : Option (Bool ⊕ Unit) :=
 (it5 d0 x22).bind fun x25 =>
 (it5 d1 x22).bind fun x29 =>
 (m_l_alike_v2 x25 x29).bind fun q33 =>
 if (!q33) = true then
 (some (.inl false))
 else
 some (.inr ())
def m_l_alike_v5 (d0 : (Int ⊕ (List Nat) ⊕ Bool ⊕ (List Int) ⊕ (List Bool))) (d1 : (Int ⊕ (List Nat) ⊕ Bool ⊕ (List Int) ⊕ (List Bool))) : Option Bool :=
 if (Mi.isi5 false false true false d1) = true then
 (( if (Mi.isi5 false false true false d0) = true then (eq5 d0 d1).bind fun b4 => some b4 else some false : Option Bool).bind fun b3 =>
 some b3)
 else
 if (Mi.isi5 true false true false d1) = true then
 (((m_l_int_3 d0).bind fun q6 => if q6 = true then (eq5 d0 d1).bind fun b9 => some b9 else some false : Option Bool).bind fun b5 =>
 some b5)
 else
 if (Mi.isi5 false true false false d1) = true then
 (( if (Mi.isi5 false true false false d0) = true then (eq5 d0 d1).bind fun b11 => some b11 else some false : Option Bool).bind fun b10 =>
 some b10)
 else
 if (false && (!false)) = true then
 (some false)
 else
 if ((Mi.isi5 false false false true d1) && (!(Mi.isi5 false false false true d0))) = true then
 (some false)
 else
 (len5 d0).bind fun x14 =>
 (len5 d1).bind fun x15 =>
 if (!(decide (x14 = x15))) = true then
 (some false)
 else
 (len5 d1).bind fun x16 =>
 (rngO 0 x16).bind fun g17 =>
 (forR (m_l_alike_v5_b1 d0 d1) () g17).bind fun e18 => orR e18 fun s19 =>
 some true
def m_l_alike_v1_b1 (d0 : (List (Int ⊕ (List Nat) ⊕ Bool ⊕ (List Int) ⊕ (List Bool)))) (d1 : (List (Int ⊕ (List Nat) ⊕ Bool ⊕ (List Int) ⊕ (List Bool)))) (s7 : Unit) (x10 : Int) : Option (Bool ⊕ Unit) :=
 (at_ d0 x10).bind fun x13 =>
 (at_ d1 x10).bind fun x17 =>
 (m_l_alike_v5 x13 x17).bind fun q21 =>
 if (!q21) = true then
 (some (.inl false))
 else
 some (.inr ())
def m_l_alike_v1 (d0 : (List (Int ⊕ (List Nat) ⊕ Bool ⊕ (List Int) ⊕ (List Bool)))) (d1 : (List (Int ⊕ (List Nat) ⊕ Bool ⊕ (List Int) ⊕ (List Bool)))) : Option Bool :=
 if (false && (!false)) = true then
 (some false)
 else
 if (true && (!true)) = true then
 (some false)
 else
 if (!(decide ((d0.length : Int) = (d1.length : Int)))) = true then
 (some false)
 else
 (rngO 0 (d1.length : Int)).bind fun g5 =>
 (forR (m_l_alike_v1_b1 d0 d1) () g5).bind fun e6 => orR e6 fun s7 =>
 some true
def m_l_alike_vb (d0 : Bool) (d1 : Bool) : Option Bool :=
 if true = true then
 (some (true && (decide (d0 = d1))))
 else
 none
def m_l_alike_vi (d0 : Int) (d1 : Int) : Option Bool :=
 if true = true then
 (((m_l_int_0 d0).bind fun q4 => if q4 = true then some (decide (d0 = d1)) else some false : Option Bool).bind fun b3 =>
 some b3)
 else
 none
def m_l_alike_vl_b1 (d0 : (List (List (Int ⊕ (List Nat) ⊕ Bool ⊕ (List Int) ⊕ (List Bool))))) (d1 : (List (List (Int ⊕ (List Nat) ⊕ Bool ⊕ (List Int) ⊕ (List Bool))))) (s7 : Unit) (x10 : Int) : Option (Bool ⊕ Unit) :=
 (at_ d0 x10).bind fun x13 =>
 (at_ d1 x10).bind fun x17 =>
 (m_l_alike_v1 x13 x17).bind fun q21 =>
 if (!q21) = true then
 (some (.inl false))
 else
 some (.inr ())
def m_l_alike_vl (d0 : (List (List (Int ⊕ (List Nat) ⊕ Bool ⊕ (List Int) ⊕ (List Bool))))) (d1 : (List (List (Int ⊕ (List Nat) ⊕ Bool ⊕ (List Int) ⊕ (List Bool))))) : Option Bool :=
 if (true && (!true)) = true then
 (some false)
 else
 if (false && (!false)) = true then
 (some false)
 else
 if (!(decide ((d0.length : Int) = (d1.length : Int)))) = true then
 (some false)
 else
 (rngO 0 (d1.length : Int)).bind fun g5 =>
 (forR (m_l_alike_vl_b1 d0 d1) () g5).bind fun e6 => orR e6 fun s7 =>
 some true
def m_l_alike_0 (d0 : (Bool × Int)) (d1 : (Bool × Int)) : Option Bool :=
 if (false && (!false)) = true then
 (some false)
 else
 if (true && (!true)) = true then
 (some false)
 else
 if (!(decide ((2 : Int) = (2 : Int)))) = true then
 (some false)
 else
 (m_l_alike_vb d0.1 d1.1).bind fun q6 =>
 if (!q6) = true then
 (some false)
 else
 (m_l_alike_vi d0.2 d1.2).bind fun q1 =>
 if (!q1) = true then
 (some false)
 else
 some true
def m_l_alike_1 (d0 : (Bool × (List (List (Int ⊕ (List Nat) ⊕ Bool ⊕ (List Int) ⊕ (List Bool)))))) (d1 : (Bool × (List (List (Int ⊕ (List Nat) ⊕ Bool ⊕ (List Int) ⊕ (List Bool)))))) : Option Bool :=
 if (false && (!false)) = true then
 (some false)
 else
 if (true && (!true)) = true then
 (some false)
 else
 if (!(decide ((2 : Int) = (2 : Int)))) = true then
 (some false)
 else
 (m_l_alike_vb d0.1 d1.1).bind fun q6 =>
 if (!q6) = true then
 (some false)
 else
 (m_l_alike_vl d0.2 d1.2).bind fun q1 =>
 if (!q1) = true then
 (some false)
 else
 some true
def m_l_hour (d0 : (List Int)) : Option (Int × (List Int)) :=
 (m_l_pick d0 (3 : Int)).bind fun q9 =>
 (at_ [(5 : Int), (30 : Int), (1000 : Int)] q9.1).bind fun x12 =>
 (m_l_pick q9.2 x12).bind fun q15 =>
 some (q15.1, q15.2)
def m_l_zone (d0 : (List Int)) : Option ((List Int) × (List Int)) :=
 (m_l_pick d0 (5 : Int)).bind fun q2 =>
 if (decide (q2.1 = (0 : Int))) = true then
 (some (([] : (List Int)), q2.2))
 else
 (m_l_some q2.2 (12 : Int) q2.1).bind fun q10 =>
 some (q10.1, q10.2)
def m_l_zone_word_b1  (s3 : (List (List Nat))) (x12 : Int) : Option (List (List Nat)) :=
 (sOfI x12).bind fun x21 =>
 (app s3 x21).bind fun x22 =>
 some x22
def m_l_zone_word (d0 : (List Int)) : Option (List Nat) :=
 if (decide ((d0.length : Int) = (0 : Int))) = true then
 (some ([45] : List Nat))
 else
 (forN (m_l_zone_word_b1) ([] : (List (List Nat))) d0).bind fun s3 =>
 (sJoin ([44] : List Nat) s3).bind fun x25 =>
 some x25
def m_l_deed_b1  (s19 : ((List Bool) × (List Int))) (x29 : Int) : Option ((List Bool) × (List Int)) :=
 (m_l_pick s19.2 (2 : Int)).bind fun q38 =>
 (app s19.1 (decide (q38.1 = (0 : Int)))).bind fun x41 =>
 some (x41, q38.2)
def m_l_deed (d0 : (List Int)) : Option ((List (Int ⊕ (List Nat) ⊕ Bool ⊕ (List Int) ⊕ (List Bool))) × (List Int)) :=
 (m_l_pick d0 (5 : Int)).bind fun q2 =>
 if (decide (q2.1 = (0 : Int))) = true then
 ((m_l_hour q2.2).bind fun q5 =>
 some (([(.inr (.inl ([119, 105, 116, 104, 100, 114, 97, 119] : List Nat))), (.inl q5.1)] : (List (Int ⊕ (List Nat) ⊕ Bool ⊕ (List Int) ⊕ (List Bool)))), q5.2))
 else
 if ((decide (q2.1 = (1 : Int))) || (decide (q2.1 = (2 : Int)))) = true then
 ((m_l_pick q2.2 (4 : Int)).bind fun q14 =>
 (rngO 0 ((1 : Int) + q14.1)).bind fun g17 =>
 (forN (m_l_deed_b1) (([] : (List Bool)), q14.2) g17).bind fun s19 =>
 (m_l_pick s19.2 (6 : Int)).bind fun q48 =>
 (m_l_pick q48.2 (7 : Int)).bind fun q51 =>
 (m_l_hour q51.2).bind fun q54 =>
 some (([(.inr (.inl ([114, 101, 99, 101, 105, 118, 101] : List Nat))), (.inl q48.1), (.inl q51.1), (.inl q54.1), (.inr (.inr (.inr (.inr s19.1))))] : (List (Int ⊕ (List Nat) ⊕ Bool ⊕ (List Int) ⊕ (List Bool)))), q54.2))
 else
 (m_l_zone q2.2).bind fun q62 =>
 (m_l_pick q62.2 (4 : Int)).bind fun q67 =>
 (m_l_hour q67.2).bind fun q70 =>
 (m_l_pick q70.2 (99 : Int)).bind fun q73 =>
 some (([(.inr (.inl ([114, 101, 112, 111, 114, 116] : List Nat))), (.inl q67.1), (.inl q70.1), (.inr (.inr (.inr (.inl q62.1)))), (.inr (.inr (.inl (decide (q2.1 = (3 : Int)))))), (.inl ((1 : Int) + q73.1))] : (List (Int ⊕ (List Nat) ⊕ Bool ⊕ (List Int) ⊕ (List Bool)))), q73.2)
def m_l_row_b1  (s39 : (List (List Nat))) (x48 : Bool) : Option (List (List Nat)) :=
 (sAt ([110, 121] : List Nat) (Mi.bI x48)).bind fun x57 =>
 (app s39 x57).bind fun x58 =>
 some x58
def m_l_row (d0 : (List (Int ⊕ (List Nat) ⊕ Bool ⊕ (List Int) ⊕ (List Bool)))) : Option (List Nat) :=
 (at_ d0 (0 : Int)).bind fun x2 =>
 (asR x2).bind fun x6 =>
 (asL x6).bind fun x8 =>
 if (decide (x8 = ([119, 105, 116, 104, 100, 114, 97, 119] : List Nat))) = true then
 ((at_ d0 (1 : Int)).bind fun x10 =>
 (asL x10).bind fun x14 =>
 (sOfI x14).bind fun x16 =>
 (sCat ([119, 105, 116, 104, 100, 114, 97, 119, 32] : List Nat) x16).bind fun x17 =>
 some x17)
 else
 (at_ d0 (0 : Int)).bind fun x18 =>
 (asR x18).bind fun x22 =>
 (asL x22).bind fun x24 =>
 if (decide (x24 = ([114, 101, 99, 101, 105, 118, 101] : List Nat))) = true then
 ((at_ d0 (4 : Int)).bind fun x26 =>
 (asR x26).bind fun x30 =>
 (asR x30).bind fun x32 =>
 (asR x32).bind fun x34 =>
 (asR x34).bind fun x36 =>
 (forN (m_l_row_b1) ([] : (List (List Nat))) x36).bind fun s39 =>
 (sJoin ([] : List Nat) s39).bind fun x61 =>
 (at_ d0 (1 : Int)).bind fun x62 =>
 (asL x62).bind fun x66 =>
 (sOfI x66).bind fun x68 =>
 (sCat ([114, 101, 99, 101, 105, 118, 101, 32] : List Nat) x68).bind fun x69 =>
 (sCat x69 ([32, 101, 118, 101, 110, 116, 32] : List Nat)).bind fun x70 =>
 (at_ d0 (2 : Int)).bind fun x71 =>
 (asL x71).bind fun x75 =>
 (sOfI x75).bind fun x77 =>
 (sCat x70 x77).bind fun x78 =>
 (sCat x78 ([32, 97, 116, 32] : List Nat)).bind fun x79 =>
 (at_ d0 (3 : Int)).bind fun x80 =>
 (asL x80).bind fun x84 =>
 (sOfI x84).bind fun x86 =>
 (sCat x79 x86).bind fun x87 =>
 (sCat x87 ([32] : List Nat)).bind fun x88 =>
 (sCat x88 x61).bind fun x89 =>
 some x89)
 else
 (at_ d0 (4 : Int)).bind fun x96 =>
 (asR x96).bind fun x100 =>
 (asR x100).bind fun x102 =>
 (asL x102).bind fun x104 =>
 (at_ [([32, 111, 117, 116, 32] : List Nat), ([32, 105, 110, 32] : List Nat)] (Mi.bI x104)).bind fun x106 =>
 (at_ d0 (1 : Int)).bind fun x109 =>
 (asL x109).bind fun x113 =>
 (sOfI x113).bind fun x115 =>
 (sCat ([114, 101, 112, 111, 114, 116, 32] : List Nat) x115).bind fun x116 =>
 (sCat x116 ([32, 97, 116, 32] : List Nat)).bind fun x117 =>
 (at_ d0 (2 : Int)).bind fun x118 =>
 (asL x118).bind fun x122 =>
 (sOfI x122).bind fun x124 =>
 (sCat x117 x124).bind fun x125 =>
 (sCat x125 x106).bind fun x126 =>
 (at_ d0 (3 : Int)).bind fun x127 =>
 (asR x127).bind fun x131 =>
 (asR x131).bind fun x133 =>
 (asR x133).bind fun x135 =>
 (asL x135).bind fun x137 =>
 (m_l_zone_word x137).bind fun q139 =>
 (sCat x126 q139).bind fun x142 =>
 (sCat x142 ([32, 119, 101, 105, 103, 104, 116, 32] : List Nat)).bind fun x143 =>
 (at_ d0 (5 : Int)).bind fun x144 =>
 (asL x144).bind fun x148 =>
 (sOfI x148).bind fun x150 =>
 (sCat x143 x150).bind fun x151 =>
 some x151
def m_l_lot_b1 (d0 : (List Int)) (d1 : Int) (s6 : (List (List (Int ⊕ (List Nat) ⊕ Bool ⊕ (List Int) ⊕ (List Bool))))) (x15 : Int) : Option (List (List (Int ⊕ (List Nat) ⊕ Bool ⊕ (List Int) ⊕ (List Bool)))) :=
 (m_l_hand d0 (d1 + x15)).bind fun q24 =>
 (m_l_deed q24).bind fun q33 =>
 (app s6 q33.1).bind fun x38 =>
 some x38
def m_l_lot (d0 : (List Int)) (d1 : Int) (d2 : Int) : Option (List (List (Int ⊕ (List Nat) ⊕ Bool ⊕ (List Int) ⊕ (List Bool)))) :=
 (rngO 0 d2).bind fun g4 =>
 (forN (m_l_lot_b1 d0 d1) ([] : (List (List (Int ⊕ (List Nat) ⊕ Bool ⊕ (List Int) ⊕ (List Bool))))) g4).bind fun s6 =>
 some s6
def m_l_number_b1  (s8 : Unit) (x11 : (List Nat)) : Option ((Option Int) ⊕ Unit) :=
 (sIn x11 ([48, 49, 50, 51, 52, 53, 54, 55, 56, 57] : List Nat)).bind fun b14 =>
 if (!b14) = true then
 (some (.inl (none : (Option Int))))
 else
 some (.inr ())
def m_l_number (d0 : (List Nat)) (d1 : Int) : Option (Option Int) :=
 (sLen d0).bind fun x3 =>
 (if (decide (x3 < (1 : Int))) = true then some true else (sLen d0).bind fun x5 => some (decide ((3 : Int) < x5))).bind fun b6 =>
 if b6 = true then
 (some (none : (Option Int)))
 else
 (forR (m_l_number_b1) () (Mi.signs d0)).bind fun e7 => orR e7 fun s8 =>
 (sLen d0).bind fun x15 =>
 (if (decide ((1 : Int) < x15)) = true then (sAt d0 (0 : Int)).bind fun x17 => some (decide (x17 = ([48] : List Nat))) else some false).bind fun b18 =>
 if b18 = true then
 (some (none : (Option Int)))
 else
 (sNum d0).bind fun x19 =>
 if (decide (d1 < x19)) = true then
 (some (none : (Option Int)))
 else
 (sNum d0).bind fun x20 =>
 some (some x20)
def m_l_zone_of_b1  (s22 : (List Int)) (x26 : (List Nat)) : Option ((Option (List Int)) ⊕ (List Int)) :=
 (m_l_number x26 (11 : Int)).bind fun q31 =>
 (if q31.isNone = true then some true else (if (decide ((0 : Int) < (s22.length : Int))) = true then (at_ s22 (-(1 : Int))).bind fun x38 => (q31).bind fun x39 => some (decide (x39 ≤ x38)) else some false).bind fun b40 => some b40).bind fun b41 =>
 if b41 = true then
 (some (.inl (none : (Option (List Int)))))
 else
 (q31).bind fun x42 =>
 (app s22 x42).bind fun x43 =>
 some (.inr x43)
def m_l_zone_of (d0 : (List Nat)) : Option (Option (List Int)) :=
 if (decide (d0 = ([45] : List Nat))) = true then
 (some (some ([] : (List Int))))
 else
 (sSplit d0 ([44] : List Nat)).bind fun x13 =>
 (forR (m_l_zone_of_b1) ([] : (List Int)) x13).bind fun e21 => orR e21 fun s22 =>
 some (some s22)
def m_l_flags_of_b1  (s7 : Unit) (x10 : (List Nat)) : Option ((Option (List Bool)) ⊕ Unit) :=
 (sIn x10 ([121, 110] : List Nat)).bind fun b13 =>
 if (!b13) = true then
 (some (.inl (none : (Option (List Bool)))))
 else
 some (.inr ())
def m_l_flags_of_b2  (s15 : (List Bool)) (x24 : (List Nat)) : Option (List Bool) :=
 (app s15 (decide (x24 = ([121] : List Nat)))).bind fun x33 =>
 some x33
def m_l_flags_of (d0 : (List Nat)) : Option (Option (List Bool)) :=
 (sLen d0).bind fun x2 =>
 (if (decide (x2 < (1 : Int))) = true then some true else (sLen d0).bind fun x4 => some (decide ((4 : Int) < x4))).bind fun b5 =>
 if b5 = true then
 (some (none : (Option (List Bool))))
 else
 (forR (m_l_flags_of_b1) () (Mi.signs d0)).bind fun e6 => orR e6 fun s7 =>
 (forN (m_l_flags_of_b2) ([] : (List Bool)) (Mi.signs d0)).bind fun s15 =>
 some (some s15)
def m_l_slot (d0 : (List Nat)) (d1 : (List Nat)) : Option (Option (Int ⊕ (List Nat) ⊕ Bool ⊕ (List Int) ⊕ (List Bool))) :=
 if (decide (d0 = ([115, 104, 105, 112] : List Nat))) = true then
 ((m_l_number d1 (3 : Int)).bind fun q3 =>
 some (q3.map Sum.inl))
 else
 if (decide (d0 = ([108, 101, 116, 116, 101, 114] : List Nat))) = true then
 ((m_l_number d1 (5 : Int)).bind fun q8 =>
 some (q8.map Sum.inl))
 else
 if (decide (d0 = ([101, 118, 101, 110, 116] : List Nat))) = true then
 ((m_l_number d1 (6 : Int)).bind fun q13 =>
 some (q13.map Sum.inl))
 else
 if ((decide (d0 = ([104, 111, 117, 114] : List Nat))) || (decide (d0 = ([101, 110, 116, 114, 121] : List Nat)))) = true then
 ((m_l_number d1 (999 : Int)).bind fun q19 =>
 some (q19.map Sum.inl))
 else
 if (decide (d0 = ([122, 111, 110, 101] : List Nat))) = true then
 ((m_l_zone_of d1).bind fun q24 =>
 some ((((q24.map Sum.inl).map Sum.inr).map Sum.inr).map Sum.inr))
 else
 if (decide (d0 = ([102, 108, 97, 103, 115] : List Nat))) = true then
 ((m_l_flags_of d1).bind fun q29 =>
 some ((((q29.map Sum.inr).map Sum.inr).map Sum.inr).map Sum.inr))
 else
 if (decide (d0 = ([119, 111, 114, 116, 104] : List Nat))) = true then
 ((m_l_number d1 (99 : Int)).bind fun q34 =>
 (at_ [q34, (none : (Option Int))] (Mi.bI (decide (d1 = ([48] : List Nat))))).bind fun x45 =>
 some (x45.map Sum.inl))
 else
 (sCut d0 (some (1 : Int)) none).bind fun x48 =>
 if (decide (d1 = x48)) = true then
 (some (some (.inr (.inl d1))))
 else
 some (none : (Option (Int ⊕ (List Nat) ⊕ Bool ⊕ (List Int) ⊕ (List Bool))))
def m_l_deed_of_b2 (x2 : (List (List Nat))) (x45 : (List (List Nat))) (s73 : (List (Option (Int ⊕ (List Nat) ⊕ Bool ⊕ (List Int) ⊕ (List Bool))))) (x86 : Int) : Option (List (Option (Int ⊕ (List Nat) ⊕ Bool ⊕ (List Int) ⊕ (List Bool)))) :=
 (at_ x45 x86).bind fun x95 =>
 (at_ x2 x86).bind fun x99 =>
 (m_l_slot x95 x99).bind fun q103 =>
 (app s73 q103).bind fun x108 =>
 some x108
def m_l_deed_of_b1 (x2 : (List (List Nat))) (s35 : Unit) (x40 : (List Nat)) : Option ((Option (List (Int ⊕ (List Nat) ⊕ Bool ⊕ (List Int) ⊕ (List Bool)))) ⊕ Unit) :=
 (sSplit x40 ([32] : List Nat)).bind fun x45 =>
 (if (decide ((x45.length : Int) = (x2.length : Int))) = true then ((rngO 0 (x45.length : Int)).bind fun g71 =>
 (forN (m_l_deed_of_b2 x2 x45) ([] : (List (Option (Int ⊕ (List Nat) ⊕ Bool ⊕ (List Int) ⊕ (List Bool))))) g71).bind fun s73 =>
 some s73) else (some [(none : (Option (Int ⊕ (List Nat) ⊕ Bool ⊕ (List Int) ⊕ (List Bool))))]) : Option (List (Option (Int ⊕ (List Nat) ⊕ Bool ⊕ (List Int) ⊕ (List Bool))))).bind fun s63 =>
 ((guardO (s63.all (Mi.okO Mi.ok5))).bind fun z112 => if (!(s63.any (·.isNone))) = true then (at_ s63 (0 : Int)).bind fun x113 => (guardO (Mi.okO Mi.ok5 x113 && Mi.okS ([114, 101, 112, 111, 114, 116] : List Nat))).bind fun z117 => some (Mi.eqTx ([114, 101, 112, 111, 114, 116] : List Nat) x113) else some false : Option Bool).bind fun b111 =>
 if b111 = true then
 ((at_ s63 (1 : Int)).bind fun x118 =>
 (at_ s63 (3 : Int)).bind fun x122 =>
 (at_ s63 (5 : Int)).bind fun x126 =>
 (at_ s63 (4 : Int)).bind fun x130 =>
 (guardO (Mi.okO Mi.ok5 x130 && Mi.okS ([105, 110] : List Nat))).bind fun z134 =>
 (at_ s63 (7 : Int)).bind fun x135 =>
 (x118).bind fun x139 =>
 (x122).bind fun x141 =>
 (x126).bind fun x143 =>
 (x135).bind fun x145 =>
 some (.inl (some ([(.inr (.inl ([114, 101, 112, 111, 114, 116] : List Nat))), x139, x141, x143, (.inr (.inr (.inl (Mi.eqTx ([105, 110] : List Nat) x130)))), x145] : (List (Int ⊕ (List Nat) ⊕ Bool ⊕ (List Int) ⊕ (List Bool)))))))
 else
 ((guardO (s63.all (Mi.okO Mi.ok5))).bind fun z153 => if (!(s63.any (·.isNone))) = true then (at_ s63 (0 : Int)).bind fun x154 => (guardO (Mi.okO Mi.ok5 x154 && Mi.okS ([114, 101, 99, 101, 105, 118, 101] : List Nat))).bind fun z158 => some (Mi.eqTx ([114, 101, 99, 101, 105, 118, 101] : List Nat) x154) else some false : Option Bool).bind fun b152 =>
 if b152 = true then
 ((at_ s63 (1 : Int)).bind fun x159 =>
 (at_ s63 (3 : Int)).bind fun x163 =>
 (at_ s63 (5 : Int)).bind fun x167 =>
 (at_ s63 (6 : Int)).bind fun x171 =>
 (x159).bind fun x175 =>
 (x163).bind fun x177 =>
 (x167).bind fun x179 =>
 (x171).bind fun x181 =>
 some (.inl (some ([(.inr (.inl ([114, 101, 99, 101, 105, 118, 101] : List Nat))), x175, x177, x179, x181] : (List (Int ⊕ (List Nat) ⊕ Bool ⊕ (List Int) ⊕ (List Bool)))))))
 else
 (guardO (s63.all (Mi.okO Mi.ok5))).bind fun z188 =>
 if (!(s63.any (·.isNone))) = true then
 ((at_ s63 (1 : Int)).bind fun x189 =>
 (x189).bind fun x193 =>
 some (.inl (some ([(.inr (.inl ([119, 105, 116, 104, 100, 114, 97, 119] : List Nat))), x193] : (List (Int ⊕ (List Nat) ⊕ Bool ⊕ (List Int) ⊕ (List Bool)))))))
 else
 some (.inr ())
def m_l_deed_of (d0 : (List Nat)) : Option (Option (List (Int ⊕ (List Nat) ⊕ Bool ⊕ (List Int) ⊕ (List Bool)))) :=
 (sSplit d0 ([32] : List Nat)).bind fun x2 =>
 (cat [([61, 114, 101, 112, 111, 114, 116, 32, 115, 104, 105, 112, 32, 61, 97, 116, 32, 104, 111, 117, 114, 32, 61, 105, 110, 32, 122, 111, 110, 101, 32, 61, 119, 101, 105, 103, 104, 116, 32, 119, 111, 114, 116, 104] : List Nat), ([61, 114, 101, 112, 111, 114, 116, 32, 115, 104, 105, 112, 32, 61, 97, 116, 32, 104, 111, 117, 114, 32, 61, 111, 117, 116, 32, 122, 111, 110, 101, 32, 61, 119, 101, 105, 103, 104, 116, 32, 119, 111, 114, 116, 104] : List Nat)] [([61, 114, 101, 99, 101, 105, 118, 101, 32, 108, 101, 116, 116, 101, 114, 32, 61, 101, 118, 101, 110, 116, 32, 101, 118, 101, 110, 116, 32, 61, 97, 116, 32, 104, 111, 117, 114, 32, 102, 108, 97, 103, 115] : List Nat), ([61, 119, 105, 116, 104, 100, 114, 97, 119, 32, 101, 110, 116, 114, 121] : List Nat)]).bind fun x24 =>
 (forR (m_l_deed_of_b1 x2) () x24).bind fun e34 => orR e34 fun s35 =>
 some (none : (Option (List (Int ⊕ (List Nat) ⊕ Bool ⊕ (List Int) ⊕ (List Bool)))))
def m_l_reading_b1 (x13 : (List (List Nat))) (s23 : (List (List (Int ⊕ (List Nat) ⊕ Bool ⊕ (List Int) ⊕ (List Bool))))) (x27 : Int) : Option ((Int × (Option (List (List (Int ⊕ (List Nat) ⊕ Bool ⊕ (List Int) ⊕ (List Bool)))))) ⊕ (List (List (Int ⊕ (List Nat) ⊕ Bool ⊕ (List Int) ⊕ (List Bool))))) :=
 (at_ x13 x27).bind fun x30 =>
 (m_l_deed_of x30).bind fun q34 =>
 if q34.isNone = true then
 (some (.inl ((x27 + (1 : Int)), (none : (Option (List (List (Int ⊕ (List Nat) ⊕ Bool ⊕ (List Int) ⊕ (List Bool)))))))))
 else
 (q34).bind fun x46 =>
 (app s23 x46).bind fun x48 =>
 some (.inr x48)
def m_l_reading (d0 : (List Nat)) : Option (Int × (Option (List (List (Int ⊕ (List Nat) ⊕ Bool ⊕ (List Int) ⊕ (List Bool)))))) :=
 if (decide (d0 = ([] : List Nat))) = true then
 (some ((0 : Int), (some ([] : (List (List (Int ⊕ (List Nat) ⊕ Bool ⊕ (List Int) ⊕ (List Bool))))))))
 else
 (sSplit d0 ([10] : List Nat)).bind fun x13 =>
 (rngO 0 (x13.length : Int)).bind fun g21 =>
 (forR (m_l_reading_b1 x13) ([] : (List (List (Int ⊕ (List Nat) ⊕ Bool ⊕ (List Int) ⊕ (List Bool))))) g21).bind fun e22 => orR e22 fun s23 =>
 some ((0 : Int), (some s23))
def m_l_sign (d0 : (List Int)) : Option ((List Nat) × (List Int)) :=
 (m_l_pick d0 (2 : Int)).bind fun q2 =>
 if (decide (q2.1 = (0 : Int))) = true then
 ((m_l_pick q2.2 (20 : Int)).bind fun q5 =>
 (sAt ([48, 49, 50, 51, 52, 53, 54, 55, 56, 57, 44, 45, 64, 32, 107, 115, 105, 110, 121, 116] : List Nat) q5.1).bind fun x8 =>
 some (x8, q5.2))
 else
 pyLet (([32, 33, 34, 35, 36, 38, 39, 40, 41, 42, 43, 44, 45, 46, 47, 48, 49, 50, 51, 52, 53, 54, 55, 56, 57, 58, 59, 60, 61, 62, 63, 64, 65, 66, 67, 68, 69, 70, 71, 72, 73, 74, 75, 76, 77, 78, 79, 80, 81, 82, 83, 84, 85, 86, 87, 88, 89, 90, 91, 92, 93, 94, 95, 96] : List Nat) : (List Nat)) fun chars9 =>
 (sCat chars9 ([97, 98, 99, 100, 101, 102, 103, 104, 105, 106, 107, 108, 109, 110, 111, 112, 113, 114, 115, 116, 117, 118, 119, 120, 121, 122, 123, 124, 125, 126] : List Nat)).bind fun x10 =>
 pyLet (x10 : (List Nat)) fun chars11 =>
 (sLen chars11).bind fun x12 =>
 (m_l_pick q2.2 x12).bind fun q13 =>
 (sAt chars11 q13.1).bind fun x16 =>
 some (x16, q13.2)
def m_l_bent (d0 : (List Int)) (d1 : (List Nat)) : Option ((List Nat) × (List Int)) :=
 (m_l_pick d0 (8 : Int)).bind fun q3 =>
 (sLen d1).bind fun x6 =>
 (m_l_pick q3.2 (x6 + (1 : Int))).bind fun q7 =>
 (m_l_sign q7.2).bind fun q10 =>
 if (decide (q3.1 < (4 : Int))) = true then
 ((sCat ([48] : List Nat) d1).bind fun x13 =>
 (sCat d1 ([48] : List Nat)).bind fun x14 =>
 (sCat d1 ([44] : List Nat)).bind fun x15 =>
 (sUp d1).bind fun x16 =>
 (at_ [x13, x14, x15, x16] q3.1).bind fun x24 =>
 some (x24, q10.2))
 else
 if (decide (q3.1 < (6 : Int))) = true then
 ((sCut d1 none (some q7.1)).bind fun x27 =>
 (sCat x27 q10.1).bind fun x28 =>
 (sCut d1 (some (q7.1 + (1 : Int))) none).bind fun x29 =>
 (sCat x28 x29).bind fun x30 =>
 some (x30, q10.2))
 else
 if (decide (q3.1 = (6 : Int))) = true then
 ((sCut d1 none (some q7.1)).bind fun x31 =>
 (sCat x31 q10.1).bind fun x32 =>
 (sCut d1 (some q7.1) none).bind fun x33 =>
 (sCat x32 x33).bind fun x34 =>
 some (x34, q10.2))
 else
 (sCut d1 none (some q7.1)).bind fun x35 =>
 (sCut d1 (some (q7.1 + (1 : Int))) none).bind fun x36 =>
 (sCat x35 x36).bind fun x37 =>
 some (x37, q10.2)
def m_l_strange (d0 : (List Int)) : Option ((List Nat) × (List Int)) :=
 pyLet (([48, 32, 49, 32, 51, 32, 52, 32, 53, 32, 54, 32, 55, 32, 57, 32, 49, 49, 32, 49, 50, 32, 57, 57, 32, 49, 48, 48, 32, 57, 57, 57, 32, 49, 48, 48, 48, 32, 48, 48, 32, 48, 49, 32, 45, 32, 45, 49, 32, 43, 49, 32, 48, 44, 49, 32, 49, 44, 48, 32, 49, 44, 49, 32, 50, 44, 49, 48, 32, 49, 48, 44, 50, 32, 48, 44, 49, 44, 32, 44, 48, 32, 48, 44, 49, 50, 32, 49, 46, 53, 32, 121, 32, 110, 32, 121, 110, 32, 121, 121, 121, 121] : List Nat) : (List Nat)) fun lots2 =>
 (sCat lots2 ([32, 110, 110, 110, 110, 110, 32, 121, 120, 32, 89, 32, 110, 121, 44, 32, 114, 101, 112, 111, 114, 116, 32, 114, 101, 99, 101, 105, 118, 101, 32, 119, 105, 116, 104, 100, 114, 97, 119, 32, 97, 116, 32, 105, 110, 32, 111, 117, 116, 32, 119, 101, 105, 103, 104, 116, 32, 101, 118, 101, 110, 116, 32, 82, 101, 112, 111, 114, 116, 32, 108, 101, 116, 116, 101, 114] : List Nat)).bind fun x3 =>
 pyLet (x3 : (List Nat)) fun lots4 =>
 (sSplit lots4 ([32] : List Nat)).bind fun x5 =>
 (sRep ([57] : List Nat) (5000 : Int)).bind fun x13 =>
 (cat x5 [([] : List Nat), x13]).bind fun x22 =>
 (m_l_pick d0 (x22.length : Int)).bind fun q32 =>
 (at_ x22 q32.1).bind fun x35 =>
 some (x35, q32.2)
def m_l_changed (d0 : (List Int)) (d1 : (List (List Nat))) (d2 : (List (List Nat))) : Option ((List (List Nat)) × (List Int)) :=
 (m_l_pick d0 (14 : Int)).bind fun q4 =>
 (m_l_pick q4.2 (d1.length : Int)).bind fun q7 =>
 (m_l_pick q7.2 ((d1.length : Int) + (1 : Int))).bind fun q10 =>
 if (decide (q4.1 < (3 : Int))) = true then
 (some (d1, q10.2))
 else
 if (decide (q4.1 = (3 : Int))) = true then
 ((cat (Mi.cut d1 none (some q7.1)) (Mi.cut d1 (some (q7.1 + (1 : Int))) none)).bind fun x32 =>
 some (x32, q10.2))
 else
 if (decide (q4.1 = (4 : Int))) = true then
 ((cat (Mi.cut d1 none (some (q7.1 + (1 : Int)))) (Mi.cut d1 (some q7.1) none)).bind fun x63 =>
 some (x63, q10.2))
 else
 if (decide (q4.1 = (5 : Int))) = true then
 ((at_ d1 (min q10.1 ((d1.length : Int) - (1 : Int)))).bind fun x84 =>
 (setAt d1 q7.1 x84).bind fun x88 =>
 (at_ d1 q7.1).bind fun x91 =>
 (setAt x88 (min q10.1 ((d1.length : Int) - (1 : Int))) x91).bind fun x95 =>
 some (x95, q10.2))
 else
 if ((decide (q4.1 = (6 : Int))) || (decide (q4.1 = (7 : Int)))) = true then
 ((at_ d1 q7.1).bind fun x108 =>
 (m_l_bent q10.2 x108).bind fun q112 =>
 (cat (Mi.cut d1 none (some q7.1)) [q112.1]).bind fun x125 =>
 (cat x125 (Mi.cut d1 (some (q7.1 + (1 : Int))) none)).bind fun x147 =>
 some (x147, q112.2))
 else
 if (decide (q4.1 = (8 : Int))) = true then
 ((m_l_strange q10.2).bind fun q168 =>
 (cat (Mi.cut d1 none (some q7.1)) [q168.1]).bind fun x181 =>
 (cat x181 (Mi.cut d1 (some (q7.1 + (1 : Int))) none)).bind fun x203 =>
 some (x203, q168.2))
 else
 if (decide (q4.1 = (9 : Int))) = true then
 ((m_l_strange q10.2).bind fun q224 =>
 (cat (Mi.cut d1 none (some q10.1)) [q224.1]).bind fun x237 =>
 (cat x237 (Mi.cut d1 (some q10.1) none)).bind fun x259 =>
 some (x259, q224.2))
 else
 if (decide (q4.1 = (10 : Int))) = true then
 (some ((Mi.cut d1 none (some q10.1)), q10.2))
 else
 if (decide (q4.1 = (11 : Int))) = true then
 ((cat (Mi.cut d1 none (some q10.1)) (Mi.cut d2 (some (min q7.1 (d2.length : Int))) none)).bind fun x299 =>
 some (x299, q10.2))
 else
 (cat (Mi.cut d1 none (some q10.1)) [([] : List Nat)]).bind fun x330 =>
 (cat x330 (Mi.cut d1 (some q10.1) none)).bind fun x352 =>
 some (x352, q10.2)
def m_l_text_changed (d0 : (List Int)) (d1 : (List (List Nat))) : Option ((List Nat) × (List Int)) :=
 (m_l_pick d0 (13 : Int)).bind fun q3 =>
 (sJoin ([10] : List Nat) d1).bind fun x6 =>
 (m_l_pick q3.2 (d1.length : Int)).bind fun q7 =>
 (m_l_pick q7.2 ((d1.length : Int) + (1 : Int))).bind fun q10 =>
 (sLen x6).bind fun x13 =>
 (m_l_pick q10.2 (x13 + (1 : Int))).bind fun q14 =>
 (m_l_sign q14.2).bind fun q17 =>
 (m_l_pick q17.2 (5 : Int)).bind fun q28 =>
 (at_ [q17.1, ([10] : List Nat)] (q28.1 / (4 : Int))).bind fun x31 =>
 if ((decide (q3.1 < (3 : Int))) || (decide ((d1.length : Int) = (0 : Int)))) = true then
 ((sCat x6 ([10] : List Nat)).bind fun x35 =>
 (at_ [x6, x35, x6] (min q3.1 (2 : Int))).bind fun x44 =>
 some (x44, q28.2))
 else
 if (decide (q3.1 = (3 : Int))) = true then
 ((cat (Mi.cut d1 none (some q7.1)) (Mi.cut d1 (some (q7.1 + (1 : Int))) none)).bind fun x64 =>
 (sJoin ([10] : List Nat) x64).bind fun x75 =>
 some (x75, q28.2))
 else
 if (decide (q3.1 = (4 : Int))) = true then
 ((cat (Mi.cut d1 none (some q10.1)) [([] : List Nat)]).bind fun x93 =>
 (cat x93 (Mi.cut d1 (some q10.1) none)).bind fun x113 =>
 (sJoin ([10] : List Nat) x113).bind fun x124 =>
 some (x124, q28.2))
 else
 if (decide (q3.1 = (5 : Int))) = true then
 ((sCut x6 none (some q14.1)).bind fun x125 =>
 (sCat x125 x31).bind fun x126 =>
 (sCut x6 (some q14.1) none).bind fun x127 =>
 (sCat x126 x127).bind fun x128 =>
 some (x128, q28.2))
 else
 if (decide (q3.1 = (6 : Int))) = true then
 ((sCut x6 none (some q14.1)).bind fun x129 =>
 (sCut x6 (some (q14.1 + (1 : Int))) none).bind fun x130 =>
 (sCat x129 x130).bind fun x131 =>
 some (x131, q28.2))
 else
 if (decide (q3.1 = (7 : Int))) = true then
 ((sCut x6 none (some q14.1)).bind fun x132 =>
 (sCat x132 x31).bind fun x133 =>
 (sCut x6 (some (q14.1 + (1 : Int))) none).bind fun x134 =>
 (sCat x133 x134).bind fun x135 =>
 some (x135, q28.2))
 else
 if (decide (q3.1 = (8 : Int))) = true then
 ((sCut x6 none (some q14.1)).bind fun x136 =>
 some (x136, q28.2))
 else
 (at_ d1 (min q10.1 ((d1.length : Int) - (1 : Int)))).bind fun x137 =>
 (sSplit x137 ([32] : List Nat)).bind fun x141 =>
 (at_ d1 q7.1).bind fun x150 =>
 (sSplit x150 ([32] : List Nat)).bind fun x154 =>
 (m_l_changed q28.2 x154 x141).bind fun q164 =>
 (sJoin ([32] : List Nat) q164.1).bind fun x185 =>
 (cat (Mi.cut d1 none (some q7.1)) [x185]).bind fun x197 =>
 (cat x197 (Mi.cut d1 (some (q7.1 + (1 : Int))) none)).bind fun x221 =>
 (sJoin ([10] : List Nat) x221).bind fun x234 =>
 some (x234, q164.2)
def m_l_asked (d0 : (List Nat)) : Option (Bool × (Int ⊕ (List (List (Int ⊕ (List Nat) ⊕ Bool ⊕ (List Int) ⊕ (List Bool)))))) :=
 (m_parse_deeds_x d0).bind fun q2 => tryX q2 (fun y9 => (some (true, (.inl y9)))) fun q13 =>
 some (false, (.inr q13))
def m_l_by_base (d0 : (List Nat)) : Option Bool :=
 (m_parse_deeds_x d0).bind fun q2 => tryX q2 (fun y9 => (some (true && true))) fun q13 =>
 some false
def m_law_b1  (s22 : (List (List Nat))) (x32 : (List (Int ⊕ (List Nat) ⊕ Bool ⊕ (List Int) ⊕ (List Bool)))) : Option (List (List Nat)) :=
 (m_l_row x32).bind fun q41 =>
 (app s22 q41).bind fun x44 =>
 some x44
def m_law_b2  (s70 : Unit) (x75 : (List Nat)) : Option (Bool ⊕ Unit) :=
 (m_l_reading x75).bind fun q80 =>
 (m_l_asked x75).bind fun q91 =>
 ((if (decide ((0 : Int) < q80.1)) = true then ((prSL q91).bind fun x111 =>
 ((m_l_alike_0 x111 (true, q80.1)).bind fun q125 => if (!q125) = true then some true else (m_l_by_base x75).bind fun q128 => some (!q128) : Option Bool).bind fun b113 =>
 if b113 = true then
 (some (.inl false))
 else
 some (.inr ())) else ((prSR q91).bind fun x131 =>
 (prSO q80).bind fun x133 =>
 (m_l_alike_1 x131 (false, x133.2)).bind fun q155 =>
 if (!q155) = true then
 (some (.inl false))
 else
 (app x131.2 ([(.inr (.inl ([119, 105, 116, 104, 100, 114, 97, 119] : List Nat))), (.inl (0 : Int))] : (List (Int ⊕ (List Nat) ⊕ Bool ⊕ (List Int) ⊕ (List Bool))))).bind fun x173 =>
 some (.inr ())) : Option (Bool ⊕ Unit))).bind fun s103 => orL s103 fun s104 =>
 some (.inr ())
def m_law (d0 : (List Int)) : Option Bool :=
 (m_l_hand d0 (0 : Int)).bind fun q2 =>
 (m_l_pick q2 (13 : Int)).bind fun q10 =>
 (m_l_lot d0 (1 : Int) q10.1).bind fun q13 =>
 (forN (m_law_b1) ([] : (List (List Nat))) q13).bind fun s22 =>
 (m_l_hand d0 (13 : Int)).bind fun q47 =>
 (m_l_text_changed q47 s22).bind fun q57 =>
 (sJoin ([10] : List Nat) s22).bind fun x60 =>
 (forR (m_law_b2) () [q57.1, x60, q57.1]).bind fun e69 => orR e69 fun s70 =>
 some true
end Mi
namespace Mi
def Hd (h : List Int) : Prop := ∃ a b c : Int, h = [a, b, c] ∧ 0 ≤ a
theorem mod_ok {i j : Int} (h : 0 < j) : mod i j = some (i % j) := if_pos h
theorem fdiv_ok {i j : Int} (h : 0 < j) (h2 : j < 2 ^ 200) : fdiv i j = some (i / j) := if_pos ⟨h, h2⟩
theorem mul_okL {i j : Int} (h : -(2 ^ 64) < i) (h2 : i < 2 ^ 64) : mul i j = some (i * j) := if_pos (.inl ⟨h, h2⟩)
theorem app_ok {α : Type} {xs : List α} {x : α} (h : xs.length < big) : app xs x = some (xs ++ [x]) := if_pos h
theorem cat_ok {α : Type} {xs ys : List α} (h : xs.length + ys.length ≤ big) : cat xs ys = some (xs ++ ys) := if_pos h
theorem rngO_ok {lo hi : Int} (h1 : -(2 ^ 60) ≤ lo) (h2 : lo < 2 ^ 60) (h3 : -(2 ^ 60) ≤ hi) (h4 : hi < 2 ^ 60) : rngO lo hi = some (rng lo hi) := if_pos ⟨⟨h1, h2⟩, h3, h4⟩
theorem at0 {α : Type} (a : α) (l : List α) : at_ (a :: l) 0 = some a := by
 unfold at_ ixN
 rw [if_pos (by decide), if_pos (by rw [List.length_cons]; omega)]
 rfl
theorem at_nat {α : Type} {xs : List α} {j : Nat} {x : α} (h : xs[j]? = some x) : at_ xs (j : Int) = some x := by
 have hj : j < xs.length := (List.getElem?_eq_some_iff.mp h).1
 unfold at_ ixN
 rw [if_pos (by omega), if_pos (by omega), Int.toNat_natCast]
 exact h
theorem at_int {α : Type} {xs : List α} {i : Int} {x : α} (h0 : 0 ≤ i) (h : xs[i.toNat]? = some x) : at_ xs i = some x := by
 have e : i = (i.toNat : Int) := by omega
 rw [e]; exact at_nat h
theorem at_some {α : Type} {xs : List α} {i : Int} (h0 : 0 ≤ i) (h1 : i < xs.length) : ∃ x, at_ xs i = some x ∧ xs[i.toNat]? = some x := by
 have hj : i.toNat < xs.length := by omega
 exact ⟨xs[i.toNat], at_int h0 (List.getElem?_eq_getElem hj), List.getElem?_eq_getElem hj⟩
theorem hand_ok (s : List Int) (k : Int) (hk : 0 ≤ k) : ∃ h, m_l_hand s k = some h ∧ Hd h := by
 simp only [m_l_hand, pyLet]
 have hc : ∃ c, (if decide (k < (s.length : Int)) = true then (at_ s k).bind fun x3 => some x3 else some 0 : Option Int) = some c := by
   by_cases h : k < (s.length : Int)
   · rw [if_pos (decide_eq_true h)]
     obtain ⟨x, hx, _⟩ := at_some hk h
     rw [hx]
     exact ⟨x, rfl⟩
   · rw [if_neg (by simpa using h)]
     exact ⟨0, rfl⟩
 obtain ⟨c, hc⟩ := hc
 rw [hc]
 show ∃ h, (Option.bind (if decide (c < 0) = true then some (1 - 2 * c) else some c) _) = some h ∧ Hd h
 have hd : ∃ d, (if decide (c < 0) = true then some (1 - 2 * c) else some c) = some d ∧ 0 ≤ d := by
   by_cases h : c < 0
   · rw [if_pos (decide_eq_true h)]
     exact ⟨_, rfl, by omega⟩
   · rw [if_neg (by simpa using h)]
     exact ⟨c, rfl, by omega⟩
 obtain ⟨d, hd, h0⟩ := hd
 rw [hd]
 show ∃ h, (Option.bind (if decide (((10 : Int) ^ 18) ≤ d) = true then some d else some 0) _) = some h ∧ Hd h
 by_cases h : ((10 : Int) ^ 18) ≤ d
 · rw [if_pos (decide_eq_true h)]
   exact ⟨_, rfl, _, _, _, rfl, h0⟩
 · rw [if_neg (by simpa using h)]
   exact ⟨_, rfl, _, _, _, rfl, by omega⟩
theorem pick_ok {h : List Int} (hh : Hd h) {n : Int} (hn : 1 ≤ n) (hN : n < 2 ^ 200) : ∃ r h', m_l_pick h n = some (r, h') ∧ 0 ≤ r ∧ r < n ∧ Hd h' := by
 obtain ⟨a, b, c, rfl, ha⟩ := hh
 have i0 : ∀ x y z : Int, at_ [x, y, z] 0 = some x := fun _ _ _ => rfl
 have i1 : ∀ x y z : Int, at_ [x, y, z] 1 = some y := fun _ _ _ => rfl
 have i2 : ∀ x y z : Int, at_ [x, y, z] 2 = some z := fun _ _ _ => rfl
 have s0 : ∀ x y z u : Int, setAt [x, y, z] 0 u = some [u, y, z] := fun _ _ _ _ => rfl
 have s2 : ∀ x y z u : Int, setAt [x, y, z] 2 u = some [x, y, u] := fun _ _ _ _ => rfl
 unfold m_l_pick pyLet
 rw [if_neg (by simp; omega)]
 simp only [i0, i1, i2, s0, s2, Option.bind_some]
 by_cases h : 0 < a
 · rw [if_pos (decide_eq_true h), mod_ok (by omega)]
   simp only [Option.bind_some]
   rw [fdiv_ok (by omega) hN]
   simp only [Option.bind_some, s0]
   exact ⟨_, _, rfl, Int.emod_nonneg _ (by omega), Int.emod_lt_of_pos _ (by omega), _, _, _, rfl, Int.ediv_nonneg ha (by omega)⟩
 · rw [if_neg (by simpa using h)]
   have m1 := Int.emod_nonneg (b + 7919 * (c + 1) + 13) (show (2147483647 : Int) ≠ 0 by decide)
   have m2 := Int.emod_lt_of_pos (b + 7919 * (c + 1) + 13) (show (0 : Int) < 2147483647 by decide)
   rw [mul_okL (by omega) (by omega)]
   simp only [Option.bind_some]
   have m3 := Int.emod_nonneg ((b + 7919 * (c + 1) + 13) % 2147483647 * ((b + 7919 * (c + 1) + 13) % 2147483647 + 48271)) (show (2147483629 : Int) ≠ 0 by decide)
   have m4 := Int.emod_lt_of_pos ((b + 7919 * (c + 1) + 13) % 2147483647 * ((b + 7919 * (c + 1) + 13) % 2147483647 + 48271)) (show (0 : Int) < 2147483629 by decide)
   rw [mul_okL (by omega) (by omega)]
   simp only [Option.bind_some]
   rw [mod_ok (by omega)]
   exact ⟨_, _, rfl, Int.emod_nonneg _ (by omega), Int.emod_lt_of_pos _ (by omega), _, _, _, rfl, ha⟩
theorem rng_nil {lo hi : Int} (h : hi ≤ lo) : rng lo hi = [] := by
 unfold rng
 have e : (hi - lo).toNat = 0 := by omega
 rw [e]; rfl
theorem rng_cons {lo hi : Int} (h : lo < hi) : rng lo hi = lo :: rng (lo + 1) hi := by
 unfold rng
 have e : (hi - lo).toNat = (hi - (lo + 1)).toNat + 1 := by omega
 rw [e, List.range_succ_eq_map, List.map_cons, List.map_map]
 congr 1
 · omega
 · apply List.map_congr_left
   intro k _
   show lo + ((k + 1 : Nat) : Int) = lo + 1 + (k : Int)
   omega
theorem rng_length (lo hi : Int) : (rng lo hi).length = (hi - lo).toNat := by unfold rng; rw [List.length_map, List.length_range]
theorem mem_rng {lo hi x : Int} : x ∈ rng lo hi ↔ lo ≤ x ∧ x < hi := by
 unfold rng
 rw [List.mem_map]
 constructor
 · rintro ⟨k, hk, rfl⟩
   rw [List.mem_range] at hk
   omega
 · intro h
   exact ⟨(x - lo).toNat, List.mem_range.mpr (by omega), by omega⟩
theorem forN_cons {α σ : Type} (f : σ → α → Option σ) (s : σ) (x : α) (xs : List α) : forN f s (x :: xs) = (f s x).bind fun s' => forN f s' xs := rfl
theorem forR_step {α σ ρ : Type} {f : σ → α → Option (ρ ⊕ σ)} {s s' : σ} {x : α} {xs : List α} (h : f s x = some (.inr s')) : forR f s (x :: xs) = forR f s' xs := by
 show (f s x).bind _ = _
 rw [h]; rfl
theorem forR_all {α ρ : Type} {f : Unit → α → Option (ρ ⊕ Unit)} : ∀ {xs : List α}, (∀ x ∈ xs, f () x = some (.inr ())) → forR f () xs = some (.inr ())
 | [], _ => rfl
 | x :: xs, h => by
   rw [forR_step (h x (List.mem_cons_self ..))]
   exact forR_all fun y hy => h y (List.mem_cons_of_mem _ hy)
theorem forN_flat {α β : Type} {f : List β → α → Option (List β)} (h : α → List β) (h1 : ∀ x, (h x).length ≤ 1) : ∀ {xs : List α} {acc : List β}, acc.length + xs.length ≤ big → (∀ acc x, x ∈ xs → acc.length < big → f acc x = some (acc ++ h x)) → forN f acc xs = some (acc ++ xs.flatMap h)
 | [], acc, _, _ => by rw [List.flatMap_nil, List.append_nil]; rfl
 | x :: xs, acc, hb, hf => by
   rw [List.length_cons] at hb
   rw [forN_cons, hf acc x (List.mem_cons_self ..) (by omega), Option.bind_some, forN_flat h h1 (by rw [List.length_append]; have := h1 x; omega) fun a y hy => hf a y (List.mem_cons_of_mem _ hy), List.flatMap_cons, List.append_assoc]
theorem enumF_length {α : Type} : ∀ (k : Int) (xs : List α), (enumF k xs).length = xs.length
 | _, [] => rfl
 | k, _ :: ys => by show (enumF (k + 1) ys).length + 1 = ys.length + 1; rw [enumF_length]
theorem at_mem {α : Type} {xs : List α} {i : Int} (h0 : 0 ≤ i) (h1 : i < xs.length) : ∃ x, at_ xs i = some x ∧ x ∈ xs := by
 obtain ⟨x, e, g⟩ := at_some h0 h1
 exact ⟨x, e, List.mem_of_getElem? g⟩
theorem guard_ok {c : Bool} (h : c = true) : guardO c = some () := if_pos h
theorem bd {α β : Type} {m : Option α} {f : α → Option β} {x : α} {r : Option β} (h : m = some x) (k : f x = r) : m.bind f = r := by rw [h]; exact k
theorem le_big {n : Nat} (h : n ≤ 100000) : n ≤ big := Nat.le_trans h (by decide)
theorem lt_big {n : Nat} (h : n ≤ 100000) : n < big := Nat.lt_of_le_of_lt h (by decide)
theorem ift {α : Type} {b : Bool} {x y r : Option α} (h : b = true) (k : x = r) : (if b = true then x else y) = r := by rw [if_pos h]; exact k
theorem iff' {α : Type} {b : Bool} {x y r : Option α} (h : b = false) (k : y = r) : (if b = true then x else y) = r := by rw [h, if_neg Bool.false_ne_true]; exact k
theorem flat_sing {α β : Type} (g : α → β) : ∀ xs : List α, (xs.flatMap fun x => [g x]) = xs.map g
 | [] => rfl
 | x :: xs => by rw [List.flatMap_cons, flat_sing g xs]; rfl
theorem sLen_ok {s : List Nat} (h : s.length ≤ 100000) : sLen s = some (s.length : Int) := if_pos (le_big h)
theorem sAt_ok {s : List Nat} {i : Int} (h : s.length ≤ 100000) (h0 : 0 ≤ i) (h1 : i < s.length) : sAt s i = some [s[i.toNat]?.getD 0] ∧ s[i.toNat]?.getD 0 ∈ s := by
 obtain ⟨x, e, g⟩ := at_some h0 h1
 unfold sAt
 rw [if_pos (le_big h), e, g]
 exact ⟨rfl, List.mem_of_getElem? g⟩
theorem sCut_ok {s : List Nat} {lo hi : Option Int} (h : s.length ≤ 100000) : sCut s lo hi = some (cut s lo hi) := if_pos (le_big h)
theorem sCat_ok {s t : List Nat} (h : s.length + t.length ≤ 100000) : sCat s t = some (s ++ t) := if_pos (le_big h)
theorem cut_mem {α : Type} {xs : List α} {lo hi : Option Int} {x : α} (h : x ∈ cut xs lo hi) : x ∈ xs := List.mem_of_mem_drop (List.mem_of_mem_take h)
theorem forN_ind {α σ : Type} {f : σ → α → Option σ} (P : List α → σ → Prop) {xs : List α} {s0 : σ} (h0 : P [] s0) (h : ∀ pre x suf s, xs = pre ++ x :: suf → P pre s → ∃ s', f s x = some s' ∧ P (pre ++ [x]) s') : ∃ e, forN f s0 xs = some e ∧ P xs e := by
 have key : ∀ (suf pre : List α) (s : σ), xs = pre ++ suf → P pre s → ∃ e, forN f s suf = some e ∧ P xs e := by
   intro suf
   induction suf with
   | nil => intro pre s e p; rw [List.append_nil] at e; subst e; exact ⟨s, rfl, p⟩
   | cons x suf ih =>
     intro pre s e p
     obtain ⟨s', e1, p1⟩ := h pre x suf s e p
     obtain ⟨r, e2, p2⟩ := ih (pre ++ [x]) s' (by rw [e, List.append_assoc]; rfl) p1
     exact ⟨r, by rw [forN_cons, e1]; exact e2, p2⟩
 exact key xs [] s0 rfl h0
theorem mem_mid {α : Type} {xs pre suf : List α} {x : α} (e : xs = pre ++ x :: suf) : x ∈ xs := by rw [e]; exact List.mem_append_right _ (List.mem_cons_self ..)
theorem rng_mid {lo hi : Int} {pre suf : List Int} {x : Int} (e : rng lo hi = pre ++ x :: suf) : x = lo + pre.length ∧ pre = rng lo x ∧ suf = rng (x + 1) hi ∧ x < hi := by
 induction pre generalizing lo with
 | nil =>
   by_cases h : lo < hi
   · rw [rng_cons h] at e
     obtain ⟨rfl, e2⟩ := List.cons.inj e
     exact ⟨by simp, by rw [rng_nil (Int.le_refl _)], e2.symm, h⟩
   · rw [rng_nil (by omega)] at e; cases e
 | cons y pre ih =>
   by_cases h : lo < hi
   · rw [rng_cons h] at e
     obtain ⟨rfl, e2⟩ := List.cons.inj e
     obtain ⟨h1, h2, h3, h4⟩ := ih e2
     have hl : lo < x := by rw [h1]; omega
     exact ⟨by rw [h1, List.length_cons]; omega, by rw [rng_cons hl, ← h2], h3, h4⟩
   · rw [rng_nil (by omega)] at e; cases e
theorem setAt_ok {α : Type} {xs : List α} {i : Int} {x : α} (h0 : 0 ≤ i) (h1 : i < xs.length) : setAt xs i x = some (xs.set i.toNat x) := by
 unfold setAt ixN
 rw [if_pos h0, if_pos h1]; rfl
theorem lt_len {xs : List Int} {n : Nat} (hp : xs.Pairwise (· < ·)) (hb : ∀ x ∈ xs, 0 ≤ x ∧ x < (n : Int)) : xs.length ≤ n := by
 have h2 : ∀ (n : Nat) (l : List Int) (lo : Int), l.Pairwise (· < ·) → (∀ x ∈ l, lo ≤ x ∧ x < lo + n) → l.length ≤ n := by
   intro n
   induction n with
   | zero =>
     intro l lo _ hb
     cases l with
     | nil => exact Nat.le_refl _
     | cons x l => have := hb x (List.mem_cons_self ..); omega
   | succ n ih =>
     intro l lo hp hb
     cases l with
     | nil => exact Nat.zero_le _
     | cons x l =>
       have hx := hb x (List.mem_cons_self ..)
       have pc := List.pairwise_cons.mp hp
       have := ih l (lo + 1) pc.2 (fun y hy => by
         have h1 := pc.1 y hy
         have h2 := hb y (List.mem_cons_of_mem _ hy)
         omega)
       rw [List.length_cons]; omega
 exact h2 n xs 0 hp (fun x hx => by have := hb x hx; omega)
theorem bf {b : Bool} (h : ¬ b = true) : b = false := by cases b with
 | false => rfl
 | true => exact absurd rfl h
theorem rep_flat {α : Type} (x : α) : ∀ n : Nat, (List.replicate n [x]).flatten = List.replicate n x
 | 0 => rfl
 | n + 1 => by rw [List.replicate_succ, List.flatten_cons, rep_flat x n, List.replicate_succ]; rfl
theorem bdP {α β γ : Type} {m : Option α} {f : α → Option (β × γ)} {x : α} {P : β → γ → Prop} (h : m = some x) (k : ∃ r h', f x = some (r, h') ∧ P r h') : ∃ r h', m.bind f = some (r, h') ∧ P r h' := by rw [h]; exact k
theorem iftP {β γ : Type} {b : Bool} {x y : Option (β × γ)} {P : β → γ → Prop} (h : b = true) (k : ∃ r h', x = some (r, h') ∧ P r h') : ∃ r h', (if b = true then x else y) = some (r, h') ∧ P r h' := by rw [if_pos h]; exact k
theorem iffP {β γ : Type} {b : Bool} {x y : Option (β × γ)} {P : β → γ → Prop} (h : b = false) (k : ∃ r h', y = some (r, h') ∧ P r h') : ∃ r h', (if b = true then x else y) = some (r, h') ∧ P r h' := by rw [h, if_neg Bool.false_ne_true]; exact k
theorem ltP' {α β γ : Type} {e : α} {f : α → Option (β × γ)} {P : β → γ → Prop} (k : ∃ r h', f e = some (r, h') ∧ P r h') : ∃ r h', pyLet e f = some (r, h') ∧ P r h' := k
def PortOk (n : Int) (t : List Int) : Prop := t.Pairwise (· < ·) ∧ ∀ x ∈ t, 0 ≤ x ∧ x < n
theorem some_ok {h : List Int} (hh : Hd h) {n c : Int} (n0 : 0 ≤ n) (n1 : n ≤ 1000) (c0 : 1 ≤ c) (c1 : c ≤ 1000) : ∃ z h', m_l_some h n c = some (z, h') ∧ PortOk n z ∧ Hd h' := by
 simp only [m_l_some]
 rw [rngO_ok (by decide) (by decide) (by omega) (by omega)]; simp only [Option.bind_some]
 obtain ⟨e, he, p1, p2, p3, _⟩ := forN_ind (f := m_l_some_b1 c) (xs := rng 0 n) (s0 := (h, ([] : List Int))) (fun pre s => Hd s.1 ∧ s.2.Pairwise (· < ·) ∧ (∀ x ∈ s.2, 0 ≤ x ∧ x < (pre.length : Int)) ∧ s.2.length ≤ pre.length) ⟨hh, .nil, (fun x hx => nomatch hx), Nat.le_refl _⟩ (fun pre x suf s e hp => by
   obtain ⟨hs, hp1, hp2, hl⟩ := hp
   obtain ⟨e1, e2, _, e4⟩ := rng_mid e
   obtain ⟨r, h1, er, r0, r1, hh1⟩ := pick_ok hs (n := c) c0 (by omega)
   simp only [m_l_some_b1]
   rw [er]; simp only [Option.bind_some]
   have hl2 : ((pre ++ [x]).length : Int) = (pre.length : Int) + 1 := by rw [List.length_append]; rfl
   have hl3 : (pre ++ [x]).length = pre.length + 1 := by rw [List.length_append]; rfl
   by_cases c : r = 0
   · rw [if_pos (decide_eq_true c), app_ok (xs := s.2) (lt_big (by omega))]; simp only [Option.bind_some]
     refine ⟨_, rfl, hh1, ?_, ?_, ?_⟩
     · show (s.2 ++ [x]).Pairwise (· < ·)
       rw [List.pairwise_append]
       exact ⟨hp1, List.pairwise_singleton .., fun a ha b hb => by rw [List.mem_singleton] at hb; subst hb; have := hp2 a ha; omega⟩
     · intro y hy
       rcases List.mem_append.mp hy with hy | hy
       · have := hp2 y hy; omega
       · rw [List.mem_singleton] at hy; omega
     · show (s.2 ++ [x]).length ≤ _; rw [List.length_append, hl3]; show s.2.length + 1 ≤ _; omega
   · rw [if_neg (by simpa using c)]; simp only [Option.bind_some]
     exact ⟨_, rfl, hh1, hp1, fun y hy => by have := hp2 y hy; omega, by show s.2.length ≤ _; omega⟩)
 rw [he]; simp only [Option.bind_some]
 refine ⟨_, _, rfl, ⟨p2, fun x hx => ?_⟩, p1⟩
 have := p3 x hx
 rw [rng_length] at this; omega
theorem si_fin : ∀ n : Fin 1001, (sInt ((n.val : Nat) : Int)).length ≤ 4 := by decide +kernel
theorem si_len {i : Int} (h0 : 0 ≤ i) (h1 : i ≤ 1000) : (sInt i).length ≤ 4 := by
 have := si_fin ⟨i.toNat, by omega⟩
 have e : ((i.toNat : Nat) : Int) = i := by omega
 simp only [e] at this
 exact this
theorem so_ok {i : Int} (h0 : 0 ≤ i) (h1 : i ≤ 1000) : sOfI i = some (sInt i) := if_pos (by omega)
theorem cc {a b : List Nat} (h : a.length + b.length ≤ 100000) : sCat a b = some (a ++ b) := sCat_ok h
structure Num (i : Int) : Prop where
 h0 : 0 ≤ i
 h1 : i ≤ 1000
def zw (z : List Int) : List Nat := if z.length = 0 then [45] else joinL [44] (z.map sInt)
structure OkZ (z : List Int) : Prop where
 so : z.Pairwise (· < ·)
 le : z.length ≤ 12
 nu : ∀ x ∈ z, Num x
theorem sum_le (k : Nat) : ∀ xs : List (List Nat), (∀ x ∈ xs, x.length ≤ k) → (xs.map (·.length)).sum ≤ xs.length * k
 | [], _ => by simp
 | p :: r, h => by
   have h1 := h p (List.mem_cons_self ..)
   have h2 := sum_le k r (fun x hx => h x (List.mem_cons_of_mem _ hx))
   rw [List.map_cons, List.sum_cons, List.length_cons, Nat.succ_mul]; omega
theorem sj_ok {sep : List Nat} {xs : List (List Nat)} (k : Nat) (h : ∀ x ∈ xs, x.length ≤ k) (hk : k ≤ 1000) (hl : xs.length ≤ 20) (hs : sep.length ≤ 5) : sJoin sep xs = some (joinL sep xs) := by
 have := sum_le k xs h
 have a : xs.length * k ≤ 20 * 1000 := Nat.mul_le_mul hl hk
 have b : xs.length * sep.length ≤ 20 * 5 := Nat.mul_le_mul hl hs
 exact if_pos (le_big (by omega))
theorem cl {a b : List Nat} (m n : Nat) (h1 : a.length ≤ m) (h2 : b.length ≤ n) (h : m + n ≤ 100000) : sCat a b = some (a ++ b) := sCat_ok (by omega)
theorem hour_ok {h : List Int} (hh : Hd h) : ∃ i h', m_l_hour h = some (i, h') ∧ Num i ∧ Hd h' := by
 unfold m_l_hour
 obtain ⟨a, h1, e1, a0, a1, hh1⟩ := pick_ok hh (n := 3) (by decide) (by decide)
 obtain ⟨m, e2, hm⟩ : ∃ y, at_ [(5 : Int), (30 : Int), (1000 : Int)] a = some y ∧ y ∈ [(5 : Int), (30 : Int), (1000 : Int)] := at_mem a0 a1
 have hm' : 1 ≤ m ∧ m ≤ 1000 := by simp only [List.mem_cons, List.not_mem_nil, or_false] at hm; omega
 obtain ⟨b, h2, e3, b0, b1, hh2⟩ := pick_ok hh1 (n := m) (by omega) (by omega)
 exact ⟨b, h2, bd e1 (bd e2 (bd e3 rfl)), ⟨b0, by omega⟩, hh2⟩
theorem zone_ok {h : List Int} (hh : Hd h) : ∃ z h', m_l_zone h = some (z, h') ∧ OkZ z ∧ Hd h' := by
 unfold m_l_zone
 obtain ⟨a, h1, e1, a0, a1, hh1⟩ := pick_ok hh (n := 5) (by decide) (by decide)
 refine bdP e1 ?_
 by_cases c : a = 0
 · exact iftP (decide_eq_true c) ⟨_, _, rfl, ⟨.nil, Nat.zero_le _, fun x hx => nomatch hx⟩, hh1⟩
 · obtain ⟨z, h2, e2, pz, hh2⟩ := some_ok hh1 (n := 12) (c := a) (by decide) (by decide) (by omega) (by omega)
   refine iffP (decide_eq_false c) (bdP e2 ⟨_, _, rfl, ⟨pz.1, lt_len (n := 12) pz.1 (fun x hx => pz.2 x hx), fun x hx => ⟨(pz.2 x hx).1, by have := (pz.2 x hx).2; omega⟩⟩, hh2⟩)
def wWd : List Nat := [119, 105, 116, 104, 100, 114, 97, 119]
def wRc : List Nat := [114, 101, 99, 101, 105, 118, 101]
def wRp : List Nat := [114, 101, 112, 111, 114, 116]
inductive OkD : List U5 → Prop
 | wd {h : Int} (hh : Num h) : OkD [.inr (.inl wWd), .inl h]
 | rc {a b c : Int} {fl : List Bool} (ha : Num a) (hb : Num b) (hc : Num c) (hf : fl.length ≤ 4) : OkD [.inr (.inl wRc), .inl a, .inl b, .inl c, .inr (.inr (.inr (.inr fl)))]
 | rp {s h w : Int} {z : List Int} {b : Bool} (hs : Num s) (hh : Num h) (hw : Num w) (hz : OkZ z) : OkD [.inr (.inl wRp), .inl s, .inl h, .inr (.inr (.inr (.inl z))), .inr (.inr (.inl b)), .inl w]
def yn (b : Bool) : List Nat := if b = true then [121] else [110]
theorem flags2 {fl : List Bool} (h : fl.length ≤ 4) : forN m_l_row_b1 [] fl = some (fl.map yn) := by
 rw [forN_flat (f := m_l_row_b1) (h := fun b => [yn b]) (fun _ => Nat.le_refl _) (le_big (by show 0 + fl.length ≤ 100000; omega)) (fun acc b hb' hb => by cases b <;> exact bd rfl (bd (app_ok hb) rfl)), List.nil_append, flat_sing]
theorem yn_len (b : Bool) : (yn b).length ≤ 1 := by cases b <;> decide
theorem alike2 (d : Int ⊕ Bool) : m_l_alike_v2 d d = some true := by
 unfold m_l_alike_v2
 cases d with
 | inl i =>
   refine iff' rfl (ift rfl (bd (x := true) (bd (x := true) rfl (ift rfl (bd (x := true) ?_ rfl))) rfl))
   show some (decide (i = i)) = some true
   rw [decide_eq_true rfl]
 | inr b =>
   refine ift rfl (bd (x := true) (ift rfl (bd (x := true) ?_ rfl)) rfl)
   show some (decide (b = b)) = some true
   rw [decide_eq_true rfl]
theorem flags_ok {h : List Int} (hh : Hd h) {n : Int} (n0 : 1 ≤ n) (n1 : n ≤ 4) : ∃ fl h', forN m_l_deed_b1 ([], h) (rng 0 n) = some (fl, h') ∧ fl.length ≤ 4 ∧ Hd h' := by
 obtain ⟨⟨c, h2⟩, e3, q1, q2⟩ := forN_ind (f := m_l_deed_b1) (xs := rng 0 n) (s0 := ([], h)) (fun pre st => Hd st.2 ∧ st.1.length = pre.length) ⟨hh, rfl⟩ (fun pre x suf st hx hst => by
   obtain ⟨s1, s2⟩ := st
   obtain ⟨hs, hl⟩ := hst
   have hl : s1.length = pre.length := hl
   have hlen : pre.length ≤ 100 := by
     have := congrArg List.length hx
     rw [rng_length, List.length_append] at this
     omega
   obtain ⟨i, k2, f2, _, _, hk2⟩ := pick_ok hs (n := 2) (by decide) (by decide)
   refine ⟨(s1 ++ [decide (i = 0)], k2), bd f2 (bd (app_ok (xs := s1) (lt_big (by omega))) rfl), hk2, ?_⟩
   show (s1 ++ [_]).length = _
   rw [List.length_append, List.length_append, hl]; rfl)
 refine ⟨c, h2, e3, ?_, q1⟩
 have : c.length = (rng 0 n).length := q2
 rw [this, rng_length]; omega
theorem draw_ok {h : List Int} (hh : Hd h) : ∃ d h', m_l_deed h = some (d, h') ∧ OkD d := by
 unfold m_l_deed
 obtain ⟨k, h1, e1, k0, k1, hh1⟩ := pick_ok hh (n := 5) (by decide) (by decide)
 refine bdP e1 ?_
 by_cases c0 : k = 0
 · obtain ⟨i, h2, e2, ni, hh2⟩ := hour_ok hh1
   exact iftP (decide_eq_true c0) (bdP e2 ⟨_, _, rfl, .wd ni⟩)
 refine iffP (decide_eq_false c0) ?_
 by_cases c1 : k = 1 ∨ k = 2
 · have hb : ((decide (k = (1 : Int))) || (decide (k = (2 : Int)))) = true := by
     rcases c1 with e | e <;> subst e <;> rfl
   obtain ⟨a, h2, e2, a0, a1, hh2⟩ := pick_ok hh1 (n := 4) (by decide) (by decide)
   obtain ⟨fl, h3, e3, lf, hh3⟩ := flags_ok hh2 (n := 1 + a) (by omega) (by omega)
   obtain ⟨b, h4, e4, b0, b1, hh4⟩ := pick_ok hh3 (n := 6) (by decide) (by decide)
   obtain ⟨c, h5, e5, c0', c1', hh5⟩ := pick_ok hh4 (n := 7) (by decide) (by decide)
   obtain ⟨i, h6, e6, ni, hh6⟩ := hour_ok hh5
   exact iftP hb (bdP e2 (bdP (rngO_ok (by decide) (by decide) (by show -(2 ^ 60) ≤ 1 + a; omega) (by show 1 + a < 2 ^ 60; omega)) (bdP e3 (bdP e4 (bdP e5 (bdP e6 ⟨_, _, rfl, .rc ⟨b0, by omega⟩ ⟨c0', by omega⟩ ni lf⟩))))))
 have hb : ((decide (k = (1 : Int))) || (decide (k = (2 : Int)))) = false := by
   rw [decide_eq_false (fun e => c1 (.inl e)), decide_eq_false (fun e => c1 (.inr e))]; rfl
 obtain ⟨z, h2, e2, oz, hh2⟩ := zone_ok hh1
 obtain ⟨s, h3, e3, s0, s1, hh3⟩ := pick_ok hh2 (n := 4) (by decide) (by decide)
 obtain ⟨i, h4, e4, ni, hh4⟩ := hour_ok hh3
 obtain ⟨w, h5, e5, w0, w1, hh5⟩ := pick_ok hh4 (n := 99) (by decide) (by decide)
 exact iffP hb (bdP e2 (bdP e3 (bdP e4 (bdP e5 ⟨_, _, rfl, .rp ⟨s0, by omega⟩ ni ⟨by show 0 ≤ 1 + w; omega, by show 1 + w ≤ 1000; omega⟩ oz⟩))))
theorem lot_ok {s : List Int} {a n : Int} (a0 : 0 ≤ a) (n0 : 0 ≤ n) (n1 : n ≤ 12) : ∃ l, m_l_lot s a n = some l ∧ (∀ d ∈ l, OkD d) ∧ l.length ≤ 12 := by
 unfold m_l_lot
 obtain ⟨c, e3, q1, q2⟩ := forN_ind (f := m_l_lot_b1 s a) (xs := rng 0 n) (s0 := []) (fun pre st => st.length = pre.length ∧ ∀ d ∈ st, OkD d) ⟨rfl, fun x hx => nomatch hx⟩ (fun pre x suf st hx hst => by
   obtain ⟨hl, hq⟩ := hst
   have hlen : pre.length ≤ 100 := by
     have := congrArg List.length hx
     rw [rng_length, List.length_append] at this
     omega
   obtain ⟨x0, _⟩ := mem_rng.mp (mem_mid hx)
   obtain ⟨h, e, hh⟩ := hand_ok s (a + x) (by omega)
   obtain ⟨d, h', f, od⟩ := draw_ok hh
   refine ⟨st ++ [d], bd e (bd f (bd (app_ok (xs := st) (lt_big (by omega))) rfl)), ?_, fun y hy => ?_⟩
   · rw [List.length_append, List.length_append, hl]; rfl
   · rcases List.mem_append.mp hy with z | z
     · exact hq y z
     · rw [List.mem_singleton.mp z]; exact od)
 refine ⟨c, bd (rngO_ok (by decide) (by decide) (by omega) (by omega)) (bd e3 rfl), q2, ?_⟩
 have : c.length = (rng 0 n).length := q1
 rw [this, rng_length]; omega
def Asc (s : List Nat) : Prop := ∀ c ∈ s, c < 128
structure Tx (n : Nat) (s : List Nat) : Prop where
 le : s.length ≤ n
 asc : Asc s
theorem Tx.mono {n m : Nat} {s : List Nat} (h : Tx n s) (k : n ≤ m) : Tx m s := ⟨Nat.le_trans h.le k, h.asc⟩
theorem Tx.app {m n : Nat} {a b : List Nat} (h : Tx m a) (k : Tx n b) : Tx (m + n) (a ++ b) := ⟨by rw [List.length_append]; have := h.le; have := k.le; omega, fun c hc => (List.mem_append.mp hc).elim (h.asc c) (k.asc c)⟩
theorem Tx.cut {n : Nat} {s : List Nat} (h : Tx n s) (lo hi : Option Int) : Tx n (Mi.cut s lo hi) := ⟨Nat.le_trans (by unfold Mi.cut; rw [List.length_take, List.length_drop]; omega) h.le, fun c hc => h.asc c (cut_mem hc)⟩
theorem asc_okS {s : List Nat} (h : Asc s) : okS s = true := List.all_eq_true.mpr fun c hc => decide_eq_true (by have := h c hc; omega)
theorem tx_c {n : Nat} {s : List Nat} (h : (s.all (fun c => decide (c < 128)) && decide (s.length ≤ n)) = true) : Tx n s := by
 rw [Bool.and_eq_true] at h
 exact ⟨of_decide_eq_true h.2, fun c hc => of_decide_eq_true (List.all_eq_true.mp h.1 c hc)⟩
theorem sCatT {m n : Nat} {a b : List Nat} (h : Tx m a) (k : Tx n b) (hk : m + n ≤ 100000) : sCat a b = some (a ++ b) := sCat_ok (by have := h.le; have := k.le; omega)
theorem sCutT {n : Nat} {s : List Nat} (h : Tx n s) (hk : n ≤ 100000) (lo hi : Option Int) : sCut s lo hi = some (cut s lo hi) := sCut_ok (by have := h.le; omega)
theorem sLenT {n : Nat} {s : List Nat} (h : Tx n s) (hk : n ≤ 100000) : sLen s = some (s.length : Int) := sLen_ok (by have := h.le; omega)
def szW (W : List (List Nat)) : Nat := (W.map fun w => w.length + 1).sum
structure Wd (n : Nat) (W : List (List Nat)) : Prop where
 le : szW W ≤ n
 asc : ∀ w ∈ W, Asc w
theorem szW_app (A B : List (List Nat)) : szW (A ++ B) = szW A + szW B := by unfold szW; rw [List.map_append, List.sum_append]
theorem szW_len : ∀ W : List (List Nat), W.length ≤ szW W
 | [] => Nat.le_refl _
 | w :: W => by show W.length + 1 ≤ (w.length + 1) + szW W; have := szW_len W; omega
theorem szW_mem {W : List (List Nat)} {w : List Nat} (h : w ∈ W) : w.length + 1 ≤ szW W := by
 induction W with
 | nil => cases h
 | cons x W ih =>
   show _ ≤ (x.length + 1) + szW W
   rcases List.mem_cons.mp h with rfl | h
   · omega
   · have := ih h; omega
theorem szW_sub {A B : List (List Nat)} (h : A.Sublist B) : szW A ≤ szW B := by
 induction h with
 | slnil => exact Nat.le_refl _
 | cons a _ ih => show _ ≤ (a.length + 1) + szW _; omega
 | cons_cons a _ ih => show (a.length + 1) + szW _ ≤ (a.length + 1) + szW _; omega
theorem Wd.mono {n m : Nat} {W : List (List Nat)} (h : Wd n W) (k : n ≤ m) : Wd m W := ⟨Nat.le_trans h.le k, h.asc⟩
theorem Wd.cut {n : Nat} {W : List (List Nat)} (h : Wd n W) (lo hi : Option Int) : Wd n (Mi.cut W lo hi) := ⟨Nat.le_trans (szW_sub ((List.take_sublist _ _).trans (List.drop_sublist _ _))) h.le, fun w hw => h.asc w (cut_mem hw)⟩
theorem Wd.app {m n : Nat} {A B : List (List Nat)} (h : Wd m A) (k : Wd n B) : Wd (m + n) (A ++ B) := ⟨by rw [szW_app]; have := h.le; have := k.le; omega, fun w hw => (List.mem_append.mp hw).elim (h.asc w) (k.asc w)⟩
theorem Wd.one {n : Nat} {w : List Nat} (h : Tx n w) : Wd (n + 1) [w] := ⟨by show w.length + 1 + 0 ≤ _; have := h.le; omega, fun x hx => by rw [List.mem_singleton] at hx; rw [hx]; exact h.asc⟩
theorem Wd.len {n : Nat} {W : List (List Nat)} (h : Wd n W) : W.length ≤ n := Nat.le_trans (szW_len W) h.le
theorem Wd.mem {n : Nat} {W : List (List Nat)} {w : List Nat} (h : Wd n W) (hw : w ∈ W) : Tx n w := ⟨by have := szW_mem hw; have := h.le; omega, h.asc w hw⟩
theorem catW {m n : Nat} {A B : List (List Nat)} (h : Wd m A) (k : Wd n B) (hk : m + n ≤ 100000) : cat A B = some (A ++ B) := cat_ok (le_big (by have := h.len; have := k.len; omega))
theorem joinL_tx {c : Nat} (hc : c < 128) : ∀ {W : List (List Nat)}, (∀ w ∈ W, Asc w) → Tx (szW W) (joinL [c] W)
 | [], _ => ⟨Nat.le_refl _, fun _ h => nomatch h⟩
 | [w], h => ⟨by show w.length ≤ w.length + 1 + 0; omega, h w (List.mem_cons_self ..)⟩
 | w :: x :: W, h => by
   have ih := joinL_tx hc (W := x :: W) fun y hy => h y (List.mem_cons_of_mem _ hy)
   have a : Tx (w.length + 1) (w ++ [c]) := (show Tx w.length w from ⟨Nat.le_refl _, h w (List.mem_cons_self ..)⟩).app (show Tx 1 [c] from ⟨Nat.le_refl _, fun y hy => by rw [List.mem_singleton] at hy; omega⟩)
   have b := a.app ih
   rw [List.append_assoc] at b
   exact b
theorem joinW {n : Nat} {c : Nat} {W : List (List Nat)} (hc : c < 128) (h : Wd n W) (hk : n ≤ 100000) : sJoin [c] W = some (joinL [c] W) ∧ Tx n (joinL [c] W) := by
 refine ⟨if_pos (le_big ?_), (joinL_tx hc h.asc).mono h.le⟩
 have e : ∀ W : List (List Nat), (W.map (·.length)).sum + W.length * 1 ≤ szW W := by
   intro W
   induction W with
   | nil => exact Nat.le_refl _
   | cons w W ih =>
     show (w.length + (W.map (·.length)).sum) + (W.length + 1) * 1 ≤ (w.length + 1) + szW W
     omega
 have := e W
 have := h.le
 show _ + W.length * 1 ≤ _
 omega
theorem splC_sz (c : Nat) : ∀ (l acc : List Nat), szW (splC c acc l) = acc.length + l.length + 1
 | [], acc => rfl
 | x :: r, acc => by
   unfold splC
   split
   · show (acc.length + 1) + szW (splC c [] r) = _
     rw [splC_sz c r []]; simp; omega
   · rw [splC_sz c r (acc ++ [x])]; simp; omega
theorem splC_asc (c : Nat) : ∀ (l acc : List Nat), Asc l → Asc acc → ∀ w ∈ splC c acc l, Asc w
 | [], acc, _, ha, w, hw => by
   obtain rfl := List.mem_singleton.mp (show w ∈ [acc] from hw)
   exact ha
 | x :: r, acc, hl, ha, w, hw => by
   unfold splC at hw
   have hr : Asc r := fun d hd => hl d (List.mem_cons_of_mem _ hd)
   split at hw
   · rcases List.mem_cons.mp hw with rfl | hw
     · exact ha
     · exact splC_asc c r [] hr (fun _ h => nomatch h) w hw
   · exact splC_asc c r (acc ++ [x]) hr (fun d hd => (List.mem_append.mp hd).elim (ha d) fun h => by rw [List.mem_singleton] at h; rw [h]; exact hl x (List.mem_cons_self ..)) w hw
theorem splC_ne (c : Nat) : ∀ (l acc : List Nat), splC c acc l ≠ []
 | [], _ => List.cons_ne_nil _ _
 | x :: r, acc => by
   unfold splC
   split
   · exact List.cons_ne_nil _ _
   · exact splC_ne c r _
theorem splitW {n c : Nat} {s : List Nat} (hc : c < 256) (h : Tx n s) (hk : n ≤ 90000) : sSplit s [c] = some (splC c [] s) ∧ Wd (n + 1) (splC c [] s) := by
 refine ⟨if_pos ⟨hc, by have := h.le; exact lt_big (by omega)⟩, ⟨by rw [splC_sz]; have := h.le; simp; omega, splC_asc c s [] h.asc (fun _ h => nomatch h)⟩⟩
def runR {σ α ρ : Type} (g : σ → α → ρ ⊕ σ) : σ → List α → ρ ⊕ σ
 | s, [] => .inr s
 | s, x :: xs => match g s x with
   | .inl r => .inl r
   | .inr s' => runR g s' xs
theorem forR_run {σ α ρ : Type} {f : σ → α → Option (ρ ⊕ σ)} {g : σ → α → ρ ⊕ σ} (sz : σ → Nat) : ∀ (xs : List α) (s : σ), (∀ s x, x ∈ xs → sz s < 100000 → f s x = some (g s x)) → (∀ s x s', g s x = .inr s' → sz s' ≤ sz s + 1) → sz s + xs.length ≤ 100000 → forR f s xs = some (runR g s xs)
 | [], s, _, _, _ => rfl
 | x :: xs, s, h, hg, hl => by
   rw [List.length_cons] at hl
   have e := h s x (List.mem_cons_self ..) (by omega)
   show (f s x).bind _ = some (match g s x with | .inl r => (.inl r : ρ ⊕ σ) | .inr s' => runR g s' xs)
   rw [e, Option.bind_some]
   cases k : g s x with
   | inl r => rfl
   | inr s' => exact forR_run sz xs s' (fun s x hx => h s x (List.mem_cons_of_mem _ hx)) hg (by have := hg s x s' k; omega)
def digB (c : Nat) : Bool := decide (48 ≤ c) && decide (c ≤ 57)
def valN (s : List Nat) : Int := ((s.foldl (fun acc c => acc * 10 + (c - 48)) 0 : Nat) : Int)
def zer (s : List Nat) : Bool := decide (1 < s.length) && decide (s[0]?.getD 0 = 48)
def numF (k : Nat) (s : List Nat) : Option Int := if (s = [] ∨ k < s.length) ∨ (¬ s.all digB = true ∨ zer s = true) then none else some (valN s)
def limF (k : Nat) (m : Int) (s : List Nat) : Option Int := (numF k s).bind fun v => if v ≤ m then some v else none
theorem dig_in (c : Nat) : ([48, 49, 50, 51, 52, 53, 54, 55, 56, 57] : List Nat).contains c = digB c := by
 rw [Bool.eq_iff_iff, List.contains_iff_mem]
 unfold digB
 simp only [List.mem_cons, List.not_mem_nil, or_false, Bool.and_eq_true, decide_eq_true_eq]
 omega
theorem signs_loop {ρ : Type} {f : Unit → List Nat → Option (ρ ⊕ Unit)} (p : Nat → Bool) {r0 : ρ} (h : ∀ c, f () [c] = some (if p c = true then .inr () else .inl r0)) : ∀ s : List Nat, forR f () (signs s) = some (if s.all p = true then .inr () else .inl r0)
 | [] => rfl
 | c :: s => by
   show (f () [c]).bind _ = _
   rw [h c, Option.bind_some, List.all_cons]
   by_cases k : p c = true
   · rw [if_pos k, k, Bool.true_and]
     exact signs_loop p h s
   · rw [if_neg k, bf k, Bool.false_and]; rfl
theorem sNum_ok {s : List Nat} (h0 : s ≠ []) (h1 : s.length ≤ 600) (h2 : s.all digB = true) : sNum s = some (valN s) := if_pos (by
 rw [Bool.and_eq_true, Bool.and_eq_true]
 refine ⟨h2, ?_, decide_eq_true h1⟩
 cases s with
 | nil => exact absurd rfl h0
 | cons _ _ => rfl)
theorem zer_ok {n : Nat} {s : List Nat} (h : Tx n s) (hk : n ≤ 100000) (h0 : s ≠ []) : (if (decide ((1 : Int) < (s.length : Int))) = true then (sAt s (0 : Int)).bind fun x16 => some (decide (x16 = ([48] : List Nat))) else some false) = some (zer s) := by
 have hl := List.length_pos_iff.mpr h0
 unfold zer
 by_cases c : 1 < s.length
 · refine ift (decide_eq_true (by omega)) (bd (sAt_ok (by have := h.le; omega) (Int.le_refl _) (by omega)).1 ?_)
   rw [decide_eq_true c, Bool.true_and]
   show some (decide ([s[0]?.getD 0] = [48])) = _
   exact congrArg some (decide_eq_decide.mpr ⟨fun z => (List.cons.inj z).1, fun z => by rw [z]⟩)
 · rw [decide_eq_false c]
   exact iff' (decide_eq_false (by omega)) rfl
theorem numF_none {k : Nat} {s : List Nat} (h : (s = [] ∨ k < s.length) ∨ (¬ s.all digB = true ∨ zer s = true)) : numF k s = none := if_pos h
theorem numF_some {k : Nat} {s : List Nat} (h0 : s ≠ []) (h1 : s.length ≤ k) (h2 : s.all digB = true) (h3 : ¬ zer s = true) : numF k s = some (valN s) := if_neg (by rintro ((h | h) | h | h) <;> first | exact h0 h | omega | exact h h2 | exact h3 h)
theorem read_number_ok {n : Nat} {s : List Nat} (h : Tx n s) (hn : n ≤ 100000) {k : Nat} (hk : k ≤ 600) : m_read_number s (k : Int) = some (numF k s) := by
 unfold m_read_number
 by_cases h0 : s = []
 · rw [numF_none (.inl (.inl h0))]
   exact bd (ift (decide_eq_true h0) rfl) (ift rfl rfl)
 · refine bd (iff' (decide_eq_false h0) (bd (sLenT h hn) rfl)) ?_
   by_cases h1 : k < s.length
   · rw [numF_none (.inl (.inr h1))]
     exact ift (decide_eq_true (by omega)) rfl
   · refine iff' (decide_eq_false (by omega)) (bd (signs_loop (r0 := none) (f := m_read_number_b1) digB (fun c => ?_) s) ?_)
     · unfold m_read_number_b1
       refine bd (x := digB c) (congrArg some (dig_in c)) ?_
       cases digB c <;> rfl
     · by_cases h2 : s.all digB = true
       · rw [if_pos h2]
         refine bd (sLenT h hn) (bd (zer_ok h hn h0) ?_)
         by_cases h3 : zer s = true
         · rw [numF_none (.inr (.inr h3))]
           exact ift h3 rfl
         · rw [numF_some h0 (by omega) h2 h3]
           exact iff' (bf h3) (bd (sNum_ok h0 (by omega) h2) rfl)
       · rw [if_neg h2, numF_none (.inr (.inl h2))]; rfl
theorem read_limited_ok {n : Nat} {s : List Nat} (h : Tx n s) (hn : n ≤ 100000) {k : Nat} (hk : k ≤ 600) (m : Int) : m_read_limited s (k : Int) m = some (limF k m s) := by
 unfold m_read_limited limF
 refine bd (read_number_ok h hn hk) ?_
 cases numF k s with
 | none => exact bd (ift rfl rfl) (ift rfl rfl)
 | some v =>
   refine bd (iff' rfl (bd rfl rfl)) ?_
   show _ = some (if v ≤ m then some v else none)
   by_cases c : v ≤ m
   · rw [if_pos c]; exact iff' (decide_eq_false (by omega)) rfl
   · rw [if_neg c]; exact ift (decide_eq_true (by omega)) rfl
theorem l_number_ok {n : Nat} {s : List Nat} (h : Tx n s) (hn : n ≤ 100000) (m : Int) : m_l_number s m = some (limF 3 m s) := by
 unfold m_l_number limF
 refine bd (sLenT h hn) ?_
 by_cases h0 : s = []
 · rw [numF_none (.inl (.inl h0))]
   exact bd (ift (decide_eq_true (by rw [h0]; decide)) rfl) (ift rfl rfl)
 · have hl := List.length_pos_iff.mpr h0
   refine bd (iff' (decide_eq_false (by omega)) (bd (sLenT h hn) rfl)) ?_
   by_cases h1 : 3 < s.length
   · rw [numF_none (.inl (.inr h1))]
     exact ift (decide_eq_true (by omega)) rfl
   · refine iff' (decide_eq_false (by omega)) (bd (signs_loop (r0 := none) (f := m_l_number_b1) digB (fun c => ?_) s) ?_)
     · unfold m_l_number_b1
       refine bd (x := digB c) (congrArg some (dig_in c)) ?_
       cases digB c <;> rfl
     · by_cases h2 : s.all digB = true
       · rw [if_pos h2]
         refine bd (sLenT h hn) (bd (zer_ok h hn h0) ?_)
         by_cases h3 : zer s = true
         · rw [numF_none (.inr (.inr h3))]
           exact ift h3 rfl
         · rw [numF_some h0 (by omega) h2 h3]
           refine iff' (bf h3) (bd (sNum_ok h0 (by omega) h2) ?_)
           show _ = some (if valN s ≤ m then some (valN s) else none)
           by_cases c : valN s ≤ m
           · rw [if_pos c]; exact iff' (decide_eq_false (by omega)) (bd (sNum_ok h0 (by omega) h2) rfl)
           · rw [if_neg c]; exact ift (decide_eq_true (by omega)) rfl
       · rw [if_neg h2, numF_none (.inr (.inl h2))]; rfl
theorem lim_two {s : List Nat} : limF 2 11 s = limF 3 11 s := by
 unfold limF
 by_cases h1 : s.length ≤ 2
 · have : numF 2 s = numF 3 s := by
     have e : (2 < s.length) ↔ (3 < s.length) := by omega
     unfold numF
     by_cases p : (s = [] ∨ 3 < s.length) ∨ (¬ s.all digB = true ∨ zer s = true)
     · rw [if_pos p, if_pos (p.imp (fun z => z.imp id e.mpr) id)]
     · rw [if_neg p, if_neg (fun z => p (z.imp (fun z => z.imp id e.mp) id))]
   rw [this]
 · rw [numF_none (k := 2) (.inl (.inr (by omega)))]
   by_cases h2 : s.length = 3
   · match s, h2 with
     | [a, b, c], _ =>
       by_cases hd : ([a, b, c] : List Nat).all digB = true
       · by_cases hz : zer [a, b, c] = true
         · rw [numF_none (.inr (.inr hz))]
         · rw [numF_some (List.cons_ne_nil _ _) (Nat.le_refl 3) hd hz]
           have ha : a ≠ 48 := fun e => hz (by rw [e]; rfl)
           simp only [List.all_cons, List.all_nil, Bool.and_true, Bool.and_eq_true] at hd
           unfold digB at hd
           simp only [Bool.and_eq_true, decide_eq_true_eq] at hd
           have : ¬ valN [a, b, c] ≤ 11 := by
             show ¬ ((((0 * 10 + (a - 48)) * 10 + (b - 48)) * 10 + (c - 48) : Nat) : Int) ≤ 11
             omega
           show none = if valN [a, b, c] ≤ 11 then _ else none
           rw [if_neg this]
       · rw [numF_none (.inr (.inl hd))]
   · rw [numF_none (k := 3) (.inl (.inr (by omega)))]
theorem lim_zero {m : Int} {s : List Nat} (hm : 0 ≤ m) : limF 3 m s = some 0 ↔ s = [48] := by
 constructor
 · intro h
   unfold limF at h
   unfold numF at h
   split at h
   · cases h
   · rename_i k
     have k1 : s ≠ [] := fun z => k (.inl (.inl z))
     have k2 : s.length ≤ 3 := Nat.le_of_not_lt fun z => k (.inl (.inr z))
     have k3 : s.all digB = true := Classical.byContradiction fun z => k (.inr (.inl z))
     have k4 : ¬ zer s = true := fun z => k (.inr (.inr z))
     have v0 : valN s = 0 := by
       rw [Option.bind_some] at h
       split at h
       · exact Option.some.inj h
       · cases h
     match s, k1, k2, k3, k4, v0 with
     | [a], _, _, hd, _, v0 =>
       simp only [List.all_cons, List.all_nil, Bool.and_true] at hd
       unfold digB at hd
       simp only [Bool.and_eq_true, decide_eq_true_eq] at hd
       have : ((0 * 10 + (a - 48) : Nat) : Int) = 0 := v0
       rw [show a = 48 by omega]
     | a :: b :: r, _, h3, hd, hz, v0 =>
       exfalso
       have ha : a ≠ 48 := fun e => hz (by rw [e]; unfold zer; rw [decide_eq_true (by simp)]; rfl)
       rw [List.all_cons, Bool.and_eq_true] at hd
       have hd1 := hd.1
       unfold digB at hd1
       simp only [Bool.and_eq_true, decide_eq_true_eq] at hd1
       match r, h3, v0 with
       | [], _, v0 =>
         have : (((0 * 10 + (a - 48)) * 10 + (b - 48) : Nat) : Int) = 0 := v0
         omega
       | [c], _, v0 =>
         have : ((((0 * 10 + (a - 48)) * 10 + (b - 48)) * 10 + (c - 48) : Nat) : Int) = 0 := v0
         omega
       | _ :: _ :: _, h3, _ => simp at h3
 · rintro rfl
   show (if (0 : Int) ≤ m then some (0 : Int) else none) = some 0
   rw [if_pos hm]
def zstep (acc : List Int) (x : List Nat) : Option (List Int) ⊕ List Int := match limF 3 11 x with
 | none => .inl none
 | some v => if acc ≠ [] ∧ v ≤ acc.getLast?.getD 0 then .inl none else .inr (acc ++ [v])
def zonF (s : List Nat) : Option (List Int) := if s = [45] then some [] else match runR zstep [] (splC 44 [] s) with
 | .inl r => r
 | .inr z => some z
theorem at_end {α : Type} (pre : List α) (x : α) : at_ (pre ++ [x]) (-1) = some x := by
 unfold at_ ixN
 rw [if_neg (by decide), if_pos (by rw [List.length_append, List.length_singleton]; omega)]
 show (pre ++ [x])[((-1 : Int) + ((pre ++ [x]).length : Int)).toNat]? = some x
 have : ((-1 : Int) + ((pre ++ [x]).length : Int)).toNat = pre.length := by rw [List.length_append, List.length_singleton]; omega
 rw [this, List.getElem?_append_right (Nat.le_refl _), Nat.sub_self]; rfl
theorem last_at {acc : List Int} (h : acc ≠ []) : at_ acc (-1) = some (acc.getLast?.getD 0) := by
 rcases List.eq_nil_or_concat acc with rfl | ⟨A, y, rfl⟩
 · exact absurd rfl h
 · rw [List.concat_eq_append, List.getLast?_append]
   refine (at_end A y).trans ?_
   cases A <;> rfl
theorem zone_step {acc : List Int} {x : List Nat} {n : Nat} (h : Tx n x) (hn : n ≤ 100000) (ha : acc.length < 100000) : m_read_zone_b1 acc x = some (zstep acc x) ∧ m_l_zone_of_b1 acc x = some (zstep acc x) := by
 unfold m_read_zone_b1 m_l_zone_of_b1 zstep
 have e1 := read_limited_ok h hn (k := 2) (by decide) 11
 rw [lim_two] at e1
 have e2 := l_number_ok h hn 11
 cases k : limF 3 11 x with
 | none =>
   rw [k] at e1 e2
   exact ⟨bd e1 (bd (ift rfl rfl) (ift rfl rfl)), bd e2 (bd (ift rfl rfl) (ift rfl rfl))⟩
 | some v =>
   rw [k] at e1 e2
   dsimp only
   by_cases h0 : acc = []
   · subst h0
     rw [if_neg (fun z => z.1 rfl)]
     exact ⟨bd e1 (bd (iff' rfl (bd (iff' rfl rfl) rfl)) (iff' rfl (bd rfl (bd (app_ok (lt_big (Nat.zero_le _))) rfl)))), bd e2 (bd (iff' rfl (bd (iff' rfl rfl) rfl)) (iff' rfl (bd rfl (bd (app_ok (lt_big (Nat.zero_le _))) rfl))))⟩
   · have e3 := last_at h0
     have p1 : (!acc.isEmpty) = true := by cases acc with
       | nil => exact absurd rfl h0
       | cons _ _ => rfl
     have p2 : decide ((0 : Int) < (acc.length : Int)) = true := decide_eq_true (by have := List.length_pos_iff.mpr h0; omega)
     by_cases c : v ≤ acc.getLast?.getD 0
     · rw [if_pos ⟨h0, c⟩]
       exact ⟨bd e1 (bd (iff' rfl (bd (ift p1 (bd e3 (bd rfl (congrArg some (decide_eq_true c))))) rfl)) (ift rfl rfl)), bd e2 (bd (iff' rfl (bd (ift p2 (bd e3 (bd rfl (congrArg some (decide_eq_true c))))) rfl)) (ift rfl rfl))⟩
     · rw [if_neg (fun z => c z.2)]
       exact ⟨bd e1 (bd (iff' rfl (bd (ift p1 (bd e3 (bd rfl (congrArg some (decide_eq_false c))))) rfl)) (iff' rfl (bd rfl (bd (app_ok (lt_big (by omega))) rfl)))), bd e2 (bd (iff' rfl (bd (ift p2 (bd e3 (bd rfl (congrArg some (decide_eq_false c))))) rfl)) (iff' rfl (bd rfl (bd (app_ok (lt_big (by omega))) rfl))))⟩
theorem zone_both {n : Nat} {s : List Nat} (h : Tx n s) (hn : n ≤ 80000) : m_read_zone s = some (zonF s) ∧ m_l_zone_of s = some (zonF s) := by
 unfold m_read_zone m_l_zone_of zonF
 by_cases c : s = [45]
 · rw [if_pos c]
   exact ⟨ift (decide_eq_true c) rfl, ift (decide_eq_true c) rfl⟩
 · rw [if_neg c]
   obtain ⟨e, W⟩ := splitW (c := 44) (by decide) h (by omega)
   have sz : ∀ (s : List Int) (x : List Nat) (s' : List Int), zstep s x = .inr s' → s'.length ≤ s.length + 1 := fun s x s' k => by
     unfold zstep at k
     split at k
     · cases k
     · split at k
       · cases k
       · cases k; rw [List.length_append]; exact Nat.le_refl _
   have hl := W.len
   have r1 := forR_run (f := m_read_zone_b1) (g := zstep) (fun s => s.length) (splC 44 [] s) [] (fun a x hx ha => (zone_step (W.mem hx) (by omega) ha).1) sz (by show 0 + _ ≤ _; omega)
   have r2 := forR_run (f := m_l_zone_of_b1) (g := zstep) (fun s => s.length) (splC 44 [] s) [] (fun a x hx ha => (zone_step (W.mem hx) (by omega) ha).2) sz (by show 0 + _ ≤ _; omega)
   refine ⟨iff' (decide_eq_false c) (bd e (bd r1 ?_)), iff' (decide_eq_false c) (bd e (bd r2 ?_))⟩ <;> (cases runR zstep [] (splC 44 [] s) <;> rfl)
theorem cut1' {α : Type} (x : α) (xs : List α) : Mi.cut (x :: xs) (some 1) none = xs := by
 have e : sIx (x :: xs).length 0 (some 1) = 1 := by
   show (if (1 : Int) < 0 then ((1 : Int) + ((x :: xs).length : Int)).toNat else min (1 : Int).toNat (x :: xs).length) = 1
   rw [if_neg (by decide), List.length_cons]
   show min 1 (xs.length + 1) = 1; omega
 unfold Mi.cut
 rw [e]
 show xs.take ((x :: xs).length - 1) = xs
 rw [List.length_cons, Nat.add_sub_cancel, List.take_length]
def ynB (c : Nat) : Bool := decide (c = 121) || decide (c = 110)
def flgF (s : List Nat) : Option (List Bool) := if (s = [] ∨ 4 < s.length) ∨ ¬ s.all ynB = true then none else some (s.map fun c => decide (c = 121))
theorem flgF_none {s : List Nat} (h : (s = [] ∨ 4 < s.length) ∨ ¬ s.all ynB = true) : flgF s = none := if_pos h
theorem flgF_some {s : List Nat} (h0 : ¬ s = []) (h1 : ¬ 4 < s.length) (h2 : s.all ynB = true) : flgF s = some (s.map fun c => decide (c = 121)) := if_neg (by rintro ((z | z) | z) <;> first | exact h0 z | exact h1 z | exact z h2)
def yg (c : Nat) : Option Bool := if c = 121 then some true else if c = 110 then some false else none
theorem yg_get (c : Nat) : Mi.dGetB [([121], true), ([110], false)] [c] = yg c := by
 unfold Mi.dGetB yg
 by_cases h : c = 121
 · subst h; rfl
 · by_cases h2 : c = 110
   · subst h2; rfl
   · rw [if_neg h, if_neg h2]
     have a : (([121] : List Nat) == [c]) = false := by
       rw [beq_eq_false_iff_ne]; exact fun z => h (List.cons.inj z).1.symm
     have b : (([110] : List Nat) == [c]) = false := by
       rw [beq_eq_false_iff_ne]; exact fun z => h2 (List.cons.inj z).1.symm
     rw [List.find?_cons_of_neg (by rw [a]; exact Bool.false_ne_true), List.find?_cons_of_neg (by rw [b]; exact Bool.false_ne_true)]; rfl
theorem yg_any : ∀ s : List Nat, (s.map yg).any (·.isNone) = !s.all ynB
 | [] => rfl
 | c :: s => by
   rw [List.map_cons, List.any_cons, yg_any s, List.all_cons]
   unfold yg ynB
   by_cases h : c = 121
   · rw [if_pos h, decide_eq_true h]; simp
   · by_cases h2 : c = 110
     · rw [if_neg h, if_pos h2, decide_eq_true h2]; simp
     · rw [if_neg h, if_neg h2, decide_eq_false h, decide_eq_false h2]; simp
theorem yg_some : ∀ s : List Nat, s.all ynB = true → Mi.somes (s.map yg) = some (s.map fun c => decide (c = 121))
 | [], _ => rfl
 | c :: s, h => by
   rw [List.all_cons, Bool.and_eq_true] at h
   have ih := yg_some s h.2
   have hc := h.1
   unfold ynB at hc
   rw [Bool.or_eq_true, decide_eq_true_eq, decide_eq_true_eq] at hc
   rw [List.map_cons, List.map_cons]
   rcases hc with rfl | rfl
   · show (Mi.somes (s.map yg)).bind _ = _
     rw [ih]; rfl
   · show (Mi.somes (s.map yg)).bind _ = _
     rw [ih]; rfl
theorem signs_map {β : Type} {f : List β → List Nat → Option (List β)} (g : Nat → β) : ∀ (s : List Nat) (acc : List β), acc.length + s.length ≤ 100000 → (∀ acc c, acc.length < big → f acc [c] = some (acc ++ [g c])) → forN f acc (signs s) = some (acc ++ s.map g)
 | [], acc, _, _ => by show some acc = _; rw [List.map_nil, List.append_nil]
 | c :: s, acc, hl, h => by
   rw [List.length_cons] at hl
   show (f acc [c]).bind (fun a => forN f a (signs s)) = _
   rw [h acc c (lt_big (by omega)), Option.bind_some, signs_map g s _ (by rw [List.length_append]; show acc.length + 1 + _ ≤ _; omega) h, List.map_cons, List.append_assoc]; rfl
theorem read_flags_ok {n : Nat} {s : List Nat} (h : Tx n s) (hn : n ≤ 90000) : m_read_flags s = some (flgF s) := by
 unfold m_read_flags
 by_cases h0 : s = []
 · rw [flgF_none (.inl (.inl h0))]
   exact bd (ift (decide_eq_true h0) rfl) (ift rfl rfl)
 · refine bd (iff' (decide_eq_false h0) (bd (sLenT h (by omega)) rfl)) ?_
   by_cases h1 : 4 < s.length
   · rw [flgF_none (.inl (.inr h1))]
     exact ift (decide_eq_true (by omega)) rfl
   · refine iff' (decide_eq_false (by omega)) (bd (signs_map (f := m_read_flags_b1) yg s [] (by have := h.le; show 0 + _ ≤ _; omega) (fun acc c hb => ?_)) ?_)
     · unfold m_read_flags_b1
       rw [yg_get]
       exact bd (app_ok hb) rfl
     · rw [List.nil_append]
       have g : guardO ((s.map yg).all (Mi.okO fun _ => true)) = some () := guard_ok (List.all_eq_true.mpr fun x _ => by cases x <;> rfl)
       refine bd g ?_
       rw [yg_any]
       by_cases h2 : s.all ynB = true
       · rw [flgF_some h0 h1 h2]
         exact iff' (by rw [h2]; rfl) (bd (yg_some s h2) rfl)
       · rw [flgF_none (.inr h2)]
         exact ift (by rw [bf h2]; rfl) rfl
theorem l_flags_ok {n : Nat} {s : List Nat} (h : Tx n s) (hn : n ≤ 90000) : m_l_flags_of s = some (flgF s) := by
 unfold m_l_flags_of
 refine bd (sLenT h (by omega)) ?_
 by_cases h0 : s = []
 · rw [flgF_none (.inl (.inl h0))]
   exact bd (ift (decide_eq_true (by rw [h0]; decide)) rfl) (ift rfl rfl)
 · have hl := List.length_pos_iff.mpr h0
   refine bd (iff' (decide_eq_false (by omega)) (bd (sLenT h (by omega)) rfl)) ?_
   by_cases h1 : 4 < s.length
   · rw [flgF_none (.inl (.inr h1))]
     exact ift (decide_eq_true (by omega)) rfl
   · refine iff' (decide_eq_false (by omega)) (bd (signs_loop (r0 := none) (f := m_l_flags_of_b1) ynB (fun c => ?_) s) ?_)
     · unfold m_l_flags_of_b1
       have e : sIn [c] [121, 110] = some (ynB c) := by
         show some (([121, 110] : List Nat).contains c) = _
         refine congrArg some ?_
         rw [Bool.eq_iff_iff, List.contains_iff_mem]
         unfold ynB
         simp only [List.mem_cons, List.not_mem_nil, or_false, Bool.or_eq_true, decide_eq_true_eq]
       refine bd e ?_
       cases ynB c <;> rfl
     · by_cases h2 : s.all ynB = true
       · rw [if_pos h2, flgF_some h0 h1 h2]
         refine bd (signs_map (f := m_l_flags_of_b2) (fun c => decide (c = 121)) s [] (by have := h.le; show 0 + _ ≤ _; omega) (fun acc c hb => ?_)) rfl
         unfold m_l_flags_of_b2
         have e : decide (([c] : List Nat) = [121]) = decide (c = 121) := decide_eq_decide.mpr ⟨fun z => (List.cons.inj z).1, fun z => by rw [z]⟩
         rw [e]
         exact bd (app_ok hb) rfl
       · rw [if_neg h2, flgF_none (.inr h2)]; rfl
def wAt : List Nat := [97, 116]
def wWt : List Nat := [119, 101, 105, 103, 104, 116]
def wEv : List Nat := [101, 118, 101, 110, 116]
def wIn : List Nat := [105, 110]
def wOut : List Nat := [111, 117, 116]
def wrtF (w : List Nat) : Option Int := if w = [48] then none else limF 3 99 w
def dRep (a b : Int) (z : List Int) (k : Bool) (v : Int) : List U5 := [.inr (.inl wRp), .inl a, .inl b, .inr (.inr (.inr (.inl z))), .inr (.inr (.inl k)), .inl v]
def repF (w1 w3 sd w5 w7 : List Nat) : Option (List U5) := (limF 3 3 w1).bind fun a => (limF 3 999 w3).bind fun b => (zonF w5).bind fun z => (wrtF w7).bind fun v => if sd = wIn then some (dRep a b z true v) else if sd = wOut then some (dRep a b z false v) else none
def dRec (a b c : Int) (fl : List Bool) : List U5 := [.inr (.inl wRc), .inl a, .inl b, .inl c, .inr (.inr (.inr (.inr fl)))]
def recF (w1 w3 w5 w6 : List Nat) : Option (List U5) := (limF 3 5 w1).bind fun a => (limF 3 6 w3).bind fun b => (limF 3 999 w5).bind fun c => (flgF w6).bind fun fl => some (dRec a b c fl)
def dWd (a : Int) : List U5 := [.inr (.inl wWd), .inl a]
def wdF (w1 : List Nat) : Option (List U5) := (limF 3 999 w1).bind fun a => some (dWd a)
theorem g_okO (xs : List (Option Int)) : guardO (xs.all (Mi.okO fun _ => true)) = some () := guard_ok (List.all_eq_true.mpr fun x _ => by cases x <;> rfl)
theorem sd_get (s : List Nat) : Mi.dGetB [([105, 110], true), ([111, 117, 116], false)] s = if s = wIn then some true else if s = wOut then some false else none := by
 unfold Mi.dGetB
 by_cases h : s = wIn
 · subst h; rfl
 · by_cases h2 : s = wOut
   · subst h2; rfl
   · rw [if_neg h, if_neg h2]
     have a : (([105, 110] : List Nat) == s) = false := by rw [beq_eq_false_iff_ne]; exact fun z => h z.symm
     have b : (([111, 117, 116] : List Nat) == s) = false := by rw [beq_eq_false_iff_ne]; exact fun z => h2 z.symm
     rw [List.find?_cons_of_neg (by rw [a]; exact Bool.false_ne_true), List.find?_cons_of_neg (by rw [b]; exact Bool.false_ne_true)]; rfl
theorem sd_has (s : List Nat) : Mi.dHasB [([105, 110], true), ([111, 117, 116], false)] s = (decide (s = wIn) || decide (s = wOut)) := by
 unfold Mi.dHasB
 rw [List.any_cons, List.any_cons, List.any_nil, Bool.or_false]
 congr 1
 · rw [Bool.eq_iff_iff, beq_iff_eq, decide_eq_true_eq]; exact ⟨fun z => z.symm, fun z => z.symm⟩
 · rw [Bool.eq_iff_iff, beq_iff_eq, decide_eq_true_eq]; exact ⟨fun z => z.symm, fun z => z.symm⟩
theorem read_report_ok {n : Nat} (hn : n ≤ 80000) {w1 w3 sd w5 w7 : List Nat} (h1 : Tx n w1) (h3 : Tx n w3) (h5 : Tx n w5) (h7 : Tx n w7) : m_read_report w1 w3 sd w5 w7 = some (repF w1 w3 sd w5 w7) := by
 unfold m_read_report repF
 refine bd (zone_both h5 hn).1 (bd (read_limited_ok h1 (by omega) (k := 3) (by decide) 3) (bd (read_limited_ok h3 (by omega) (k := 3) (by decide) 999) (bd (read_limited_ok h7 (by omega) (k := 3) (by decide) 99) ?_)))
 cases k1 : limF 3 3 w1 with
 | none => exact bd (bd (g_okO _) (ift rfl rfl)) (ift rfl rfl)
 | some a =>
   cases k3 : limF 3 999 w3 with
   | none => exact bd (bd (g_okO _) (ift rfl rfl)) (ift rfl rfl)
   | some b =>
     have an : ([some a, some b].any (·.isNone)) = false := rfl
     cases k5 : zonF w5 with
     | none => exact bd (bd (g_okO _) (iff' an (ift rfl rfl))) (ift rfl rfl)
     | some z =>
       have nw : wrtF w7 = if w7 = [48] then none else limF 3 99 w7 := rfl
       show _ = some ((wrtF w7).bind fun v => if sd = wIn then some (dRep a b z true v) else if sd = wOut then some (dRep a b z false v) else none)
       cases k7 : limF 3 99 w7 with
       | none =>
         have e : wrtF w7 = none := by rw [nw, k7]; exact ite_self _
         rw [e]
         refine bd (x := true) (bd (g_okO _) (iff' an (iff' rfl ?_))) (ift rfl rfl)
         by_cases c : (!Mi.dHasB [([105, 110], true), ([111, 117, 116], false)] sd) = true
         · exact ift c rfl
         · exact iff' (bf c) (ift rfl rfl)
       | some v =>
         by_cases v0 : w7 = [48]
         · have e : wrtF w7 = none := by rw [nw, if_pos v0]
           rw [e]
           have ve : v = 0 := by rw [(lim_zero (m := 99) (by decide)).mpr v0] at k7; exact (Option.some.inj k7).symm
           refine bd (x := true) (bd (g_okO _) (iff' an (iff' rfl ?_))) (ift rfl rfl)
           by_cases c : (!Mi.dHasB [([105, 110], true), ([111, 117, 116], false)] sd) = true
           · exact ift c rfl
           · exact iff' (bf c) (iff' rfl (bd rfl (congrArg some (decide_eq_true ve))))
         · have e : wrtF w7 = some v := by rw [nw, if_neg v0, k7]
           rw [e]
           have ve : v ≠ 0 := fun z => v0 ((lim_zero (m := 99) (by decide)).mp (by rw [k7, z]))
           show _ = some (if sd = wIn then some (dRep a b z true v) else if sd = wOut then some (dRep a b z false v) else none)
           have hh := sd_has sd
           by_cases c1 : sd = wIn
           · rw [if_pos c1]
             have c : (!Mi.dHasB [([105, 110], true), ([111, 117, 116], false)] sd) = false := by rw [hh, decide_eq_true c1]; rfl
             have g := sd_get sd
             rw [if_pos c1] at g
             exact bd (bd (g_okO _) (iff' an (iff' rfl (iff' c (iff' rfl (bd rfl (congrArg some (decide_eq_false ve)))))))) (iff' rfl (bd rfl (bd g (bd rfl (bd rfl (bd rfl rfl))))))
           · rw [if_neg c1]
             by_cases c2 : sd = wOut
             · rw [if_pos c2]
               have c : (!Mi.dHasB [([105, 110], true), ([111, 117, 116], false)] sd) = false := by rw [hh, decide_eq_true c2, Bool.or_true]; rfl
               have g := sd_get sd
               rw [if_neg c1, if_pos c2] at g
               exact bd (bd (g_okO _) (iff' an (iff' rfl (iff' c (iff' rfl (bd rfl (congrArg some (decide_eq_false ve)))))))) (iff' rfl (bd rfl (bd g (bd rfl (bd rfl (bd rfl rfl))))))
             · rw [if_neg c2]
               have c : (!Mi.dHasB [([105, 110], true), ([111, 117, 116], false)] sd) = true := by rw [hh, decide_eq_false c1, decide_eq_false c2]; rfl
               exact bd (bd (g_okO _) (iff' an (iff' rfl (ift c rfl)))) (ift rfl rfl)
theorem read_receipt_ok {n : Nat} (hn : n ≤ 80000) {w1 w3 w5 w6 : List Nat} (h1 : Tx n w1) (h3 : Tx n w3) (h5 : Tx n w5) (h6 : Tx n w6) : m_read_receipt w1 w3 w5 w6 = some (recF w1 w3 w5 w6) := by
 unfold m_read_receipt recF
 refine bd (read_limited_ok h1 (by omega) (k := 3) (by decide) 5) (bd (read_limited_ok h3 (by omega) (k := 3) (by decide) 6) (bd (read_limited_ok h5 (by omega) (k := 3) (by decide) 999) (bd (app_ok (lt_big (by show 2 ≤ 100000; decide))) (bd (read_flags_ok h6 (by omega)) ?_))))
 cases limF 3 5 w1 with
 | none => exact bd (bd (g_okO _) (ift rfl rfl)) (ift rfl rfl)
 | some a =>
   cases limF 3 6 w3 with
   | none => exact bd (bd (g_okO _) (ift rfl rfl)) (ift rfl rfl)
   | some b =>
     cases limF 3 999 w5 with
     | none => exact bd (bd (g_okO _) (ift rfl rfl)) (ift rfl rfl)
     | some c =>
       cases flgF w6 with
       | none => exact bd (bd (g_okO _) (iff' rfl rfl)) (ift rfl rfl)
       | some fl => exact bd (bd (g_okO _) (iff' rfl rfl)) (iff' rfl (bd rfl (bd rfl (bd rfl rfl))))
theorem read_withdrawal_ok {n : Nat} (hn : n ≤ 80000) {w1 : List Nat} (h1 : Tx n w1) : m_read_withdrawal w1 = some (wdF w1) := by
 unfold m_read_withdrawal wdF
 refine bd (read_limited_ok h1 (by omega) (k := 3) (by decide) 999) ?_
 cases limF 3 999 w1 with
 | none => exact ift rfl rfl
 | some a => exact iff' rfl (bd rfl rfl)
def deedF : List (List Nat) → Option (List U5)
 | [w0, w1, w2, w3, w4, w5, w6, w7] => if w0 = wRp ∧ w2 = wAt ∧ w6 = wWt then repF w1 w3 w4 w5 w7 else none
 | [w0, w1, w2, w3, w4, w5, w6] => if w0 = wRc ∧ w2 = wEv ∧ w4 = wAt then recF w1 w3 w5 w6 else none
 | [w0, w1] => if w0 = wWd then wdF w1 else none
 | _ => none
theorem oxN' {α β : Type} {z : Option α} {f : α → Option β} {g r : Option β} (e : z = none) (h : g = r) : optX z f g = r := by rw [e]; exact h
theorem oxS' {α β : Type} {z : Option α} {a : α} {f : α → Option β} {g r : Option β} (e : z = some a) (h : f a = r) : optX z f g = r := by rw [e]; exact h
abbrev sp8 : List (Option (List Nat)) := [some wRp, none, some wAt, none, none, none, some wWt, none]
abbrev sp7 : List (Option (List Nat)) := [some wRc, none, some wEv, none, some wAt, none, none]
abbrev sp2 : List (Option (List Nat)) := [some wWd, none]
theorem read_words_ok {n : Nat} (hn : n ≤ 80000) {ws : List (List Nat)} (h : ∀ w ∈ ws, Tx n w) : (optX (msL sp8 ws) (fun ys11 =>
 (unc ys11).bind fun p13 => (unc p13.2).bind fun p14 => (unc p14.2).bind fun p15 => (unc p15.2).bind fun p16 => (unc p16.2).bind fun p17 => (m_read_report p13.1 p14.1 p15.1 p16.1 p17.1).bind fun q18 => some q18) <|
 optX (msL sp7 ws) (fun ys24 => (unc ys24).bind fun p26 => (unc p26.2).bind fun p27 => (unc p27.2).bind fun p28 => (unc p28.2).bind fun p29 => (m_read_receipt p26.1 p27.1 p28.1 p29.1).bind fun q30 => some q30) <|
 optX (msL sp2 ws) (fun ys36 => (unc ys36).bind fun p38 => (m_read_withdrawal p38.1).bind fun q39 => some q39) <|
 some (none : Option (List U5))) = some (deedF ws) := by
 by_cases l8 : ws.length = 8
 · match ws, l8, h with
   | [w0, w1, w2, w3, w4, w5, w6, w7], _, h =>
     have n7 : msL sp7 [w0, w1, w2, w3, w4, w5, w6, w7] = none := msL_len (show (8 : Nat) ≠ 7 by decide)
     have n2 : msL sp2 [w0, w1, w2, w3, w4, w5, w6, w7] = none := msL_len (show (8 : Nat) ≠ 2 by decide)
     have no : msL sp8 [w0, w1, w2, w3, w4, w5, w6, w7] = if w0 = wRp ∧ w2 = wAt ∧ w6 = wWt then some [w1, w3, w4, w5, w7] else none := by
       show (if w0 = wRp then (if w2 = wAt then (if w6 = wWt then some [w7] else none).map (w5 :: ·) |>.map (w4 :: ·) |>.map (w3 :: ·) else none).map (w1 :: ·) else none) = _
       by_cases c0 : w0 = wRp
       · by_cases c2 : w2 = wAt
         · by_cases c6 : w6 = wWt
           · rw [if_pos c0, if_pos c2, if_pos c6, if_pos ⟨c0, c2, c6⟩]; rfl
           · rw [if_pos c0, if_pos c2, if_neg c6, if_neg (fun z => c6 z.2.2)]; rfl
         · rw [if_pos c0, if_neg c2, if_neg (fun z => c2 z.2.1)]; rfl
       · rw [if_neg c0, if_neg (fun z => c0 z.1)]
     show _ = some (if w0 = wRp ∧ w2 = wAt ∧ w6 = wWt then repF w1 w3 w4 w5 w7 else none)
     by_cases c : w0 = wRp ∧ w2 = wAt ∧ w6 = wWt
     · rw [if_pos c] at no ⊢
       refine oxS' no (bd (x := (w1, _)) rfl (bd (x := (w3, _)) rfl (bd (x := (w4, _)) rfl (bd (x := (w5, _)) rfl (bd (x := (w7, _)) rfl (bd (read_report_ok hn (h w1 ?_) (h w3 ?_) (h w5 ?_) (h w7 ?_)) rfl)))))) <;> simp
     · rw [if_neg c] at no ⊢
       exact oxN' no (oxN' n7 (oxN' n2 rfl))
 · have n8 : msL sp8 ws = none := msL_len l8
   refine oxN' n8 ?_
   by_cases l7 : ws.length = 7
   · match ws, l7, h with
     | [w0, w1, w2, w3, w4, w5, w6], _, h =>
       have n2 : msL sp2 [w0, w1, w2, w3, w4, w5, w6] = none := msL_len (show (7 : Nat) ≠ 2 by decide)
       have no : msL sp7 [w0, w1, w2, w3, w4, w5, w6] = if w0 = wRc ∧ w2 = wEv ∧ w4 = wAt then some [w1, w3, w5, w6] else none := by
         show (if w0 = wRc then (if w2 = wEv then (if w4 = wAt then some [w5, w6] else none).map (w3 :: ·) else none).map (w1 :: ·) else none) = _
         by_cases c0 : w0 = wRc
         · by_cases c2 : w2 = wEv
           · by_cases c6 : w4 = wAt
             · rw [if_pos c0, if_pos c2, if_pos c6, if_pos ⟨c0, c2, c6⟩]; rfl
             · rw [if_pos c0, if_pos c2, if_neg c6, if_neg (fun z => c6 z.2.2)]; rfl
           · rw [if_pos c0, if_neg c2, if_neg (fun z => c2 z.2.1)]; rfl
         · rw [if_neg c0, if_neg (fun z => c0 z.1)]
       show _ = some (if w0 = wRc ∧ w2 = wEv ∧ w4 = wAt then recF w1 w3 w5 w6 else none)
       by_cases c : w0 = wRc ∧ w2 = wEv ∧ w4 = wAt
       · rw [if_pos c] at no ⊢
         refine oxS' no (bd (x := (w1, _)) rfl (bd (x := (w3, _)) rfl (bd (x := (w5, _)) rfl (bd (x := (w6, _)) rfl (bd (read_receipt_ok hn (h w1 ?_) (h w3 ?_) (h w5 ?_) (h w6 ?_)) rfl))))) <;> simp
       · rw [if_neg c] at no ⊢
         exact oxN' no (oxN' n2 rfl)
   · have n7 : msL sp7 ws = none := msL_len l7
     refine oxN' n7 ?_
     by_cases l2 : ws.length = 2
     · match ws, l2, h with
       | [w0, w1], _, h =>
         have no : msL sp2 [w0, w1] = if w0 = wWd then some [w1] else none := rfl
         show _ = some (if w0 = wWd then wdF w1 else none)
         by_cases c : w0 = wWd
         · rw [if_pos c] at no ⊢
           exact oxS' no (bd (x := (w1, _)) rfl (bd (read_withdrawal_ok hn (h w1 (by simp))) rfl))
         · rw [if_neg c] at no ⊢
           exact oxN' no rfl
     · have n2 : msL sp2 ws = none := msL_len l2
       refine oxN' n2 (congrArg some ?_)
       match ws, l8, l7, l2 with
       | [], _, _, _ => rfl
       | [_], _, _, _ => rfl
       | [_, _], _, _, z => exact absurd rfl z
       | [_, _, _], _, _, _ => rfl
       | [_, _, _, _], _, _, _ => rfl
       | [_, _, _, _, _], _, _, _ => rfl
       | [_, _, _, _, _, _], _, _, _ => rfl
       | [_, _, _, _, _, _, _], _, z, _ => exact absurd rfl z
       | [_, _, _, _, _, _, _, _], z, _, _ => exact absurd rfl z
       | _ :: _ :: _ :: _ :: _ :: _ :: _ :: _ :: _ :: _, _, _, _ => rfl
theorem read_deed_ok {n : Nat} (hn : n ≤ 70000) {s : List Nat} (h : Tx n s) : m_read_deed s = some (deedF (splC 32 [] s)) := by
 obtain ⟨e, W⟩ := splitW (c := 32) (by decide) h (by omega)
 unfold m_read_deed
 refine bd (x := splC 32 [] s) (by unfold m_split_words; exact bd e rfl) ?_
 exact read_words_ok (n := n + 1) (by omega) (fun w hw => W.mem hw)
def litF (l w : List Nat) : Option U5 := if w = l then some (.inr (.inl w)) else none
abbrev iF (x : Option Int) : Option U5 := x.map Sum.inl
abbrev zF (x : Option (List Int)) : Option U5 := (((x.map Sum.inl).map Sum.inr).map Sum.inr).map Sum.inr
abbrev bF (x : Option (List Bool)) : Option U5 := (((x.map Sum.inr).map Sum.inr).map Sum.inr).map Sum.inr
theorem ne_hd {a b : Nat} {r t : List Nat} (h : a ≠ b) : decide (a :: r = b :: t) = false := decide_eq_false fun z => h (List.cons.inj z).1
theorem slot_lit {l w : List Nat} (hl : l.length ≤ 1000) : m_l_slot (61 :: l) w = some (litF l w) := by
 unfold m_l_slot litF
 refine iff' (ne_hd (by decide)) (iff' (ne_hd (by decide)) (iff' (ne_hd (by decide)) (iff' (by rw [ne_hd (by decide), ne_hd (by decide)]; rfl) (iff' (ne_hd (by decide)) (iff' (ne_hd (by decide)) (iff' (ne_hd (by decide)) (bd (sCut_ok (by rw [List.length_cons]; omega)) ?_)))))))
 rw [cut1']
 by_cases c : w = l
 · rw [if_pos c]; exact ift (decide_eq_true c) rfl
 · rw [if_neg c]; exact iff' (decide_eq_false c) rfl
section
variable {n : Nat} {w : List Nat}
theorem slot_ship (h : Tx n w) (hn : n ≤ 80000) : m_l_slot [115, 104, 105, 112] w = some (iF (limF 3 3 w)) := by
 unfold m_l_slot
 exact ift rfl (bd (l_number_ok h (by omega) 3) rfl)
theorem slot_letter (h : Tx n w) (hn : n ≤ 80000) : m_l_slot [108, 101, 116, 116, 101, 114] w = some (iF (limF 3 5 w)) := by
 unfold m_l_slot
 exact iff' rfl (ift rfl (bd (l_number_ok h (by omega) 5) rfl))
theorem slot_event (h : Tx n w) (hn : n ≤ 80000) : m_l_slot [101, 118, 101, 110, 116] w = some (iF (limF 3 6 w)) := by
 unfold m_l_slot
 exact iff' rfl (iff' rfl (ift rfl (bd (l_number_ok h (by omega) 6) rfl)))
theorem slot_hour (h : Tx n w) (hn : n ≤ 80000) : m_l_slot [104, 111, 117, 114] w = some (iF (limF 3 999 w)) := by
 unfold m_l_slot
 exact iff' rfl (iff' rfl (iff' rfl (ift rfl (bd (l_number_ok h (by omega) 999) rfl))))
theorem slot_entry (h : Tx n w) (hn : n ≤ 80000) : m_l_slot [101, 110, 116, 114, 121] w = some (iF (limF 3 999 w)) := by
 unfold m_l_slot
 exact iff' rfl (iff' rfl (iff' rfl (ift rfl (bd (l_number_ok h (by omega) 999) rfl))))
theorem slot_zone (h : Tx n w) (hn : n ≤ 80000) : m_l_slot [122, 111, 110, 101] w = some (zF (zonF w)) := by
 unfold m_l_slot
 exact iff' rfl (iff' rfl (iff' rfl (iff' rfl (ift rfl (bd (zone_both h hn).2 rfl)))))
theorem slot_flags (h : Tx n w) (hn : n ≤ 80000) : m_l_slot [102, 108, 97, 103, 115] w = some (bF (flgF w)) := by
 unfold m_l_slot
 exact iff' rfl (iff' rfl (iff' rfl (iff' rfl (iff' rfl (ift rfl (bd (l_flags_ok h (by omega)) rfl))))))
theorem slot_worth (h : Tx n w) (hn : n ≤ 80000) : m_l_slot [119, 111, 114, 116, 104] w = some (iF (wrtF w)) := by
 unfold m_l_slot
 refine iff' rfl (iff' rfl (iff' rfl (iff' rfl (iff' rfl (iff' rfl (ift rfl (bd (l_number_ok h (by omega) 99) (bd (x := wrtF w) ?_ rfl))))))))
 unfold wrtF
 by_cases c : w = [48]
 · rw [decide_eq_true c, if_pos c]; rfl
 · rw [decide_eq_false c, if_neg c]; rfl
end
theorem st {α σ : Type} {f : σ → α → Option σ} {s s' : σ} {x : α} {xs : List α} {r : Option σ} (h : f s x = some s') (k : forN f s' xs = r) : forN f s (x :: xs) = r := by rw [forN_cons, h]; exact k
theorem b2_ok {ws W : List (List Nat)} {acc : List (Option U5)} {i : Int} {f w : List Nat} {v : Option U5} (h1 : at_ W i = some f) (h2 : at_ ws i = some w) (h3 : m_l_slot f w = some v) (h4 : acc.length ≤ 1000) : m_l_deed_of_b2 ws W acc i = some (acc ++ [v]) := by
 unfold m_l_deed_of_b2
 exact bd h1 (bd h2 (bd h3 (bd (app_ok (lt_big (by omega))) rfl)))
def valsO (ws W : List (List Nat)) : Option (List (Option U5)) := if (decide ((W.length : Int) = (ws.length : Int))) = true then ((rngO (0 : Int) (W.length : Int)).bind fun g71 => (forN (m_l_deed_of_b2 ws W) ([] : List (Option U5)) g71).bind fun s73 => some s73) else (some [(none : Option U5)])
theorem b1_none {ws W : List (List Nat)} {form : List Nat} {V : List (Option U5)} (h1 : sSplit form [32] = some W) (h2 : valsO ws W = some V) (ok : V.all (Mi.okO Mi.ok5) = true) (hn : V.any (·.isNone) = true) : m_l_deed_of_b1 ws () form = some (.inr ()) := by
 unfold m_l_deed_of_b1
 have f : (!(V.any (·.isNone))) = false := by rw [hn]; rfl
 exact bd h1 (bd h2 (bd (x := false) (bd (guard_ok ok) (iff' f rfl)) (iff' rfl (bd (x := false) (bd (guard_ok ok) (iff' f rfl)) (iff' rfl (bd (guard_ok ok) (iff' f rfl)))))))
theorem g2 {d : Option U5} {s : List Nat} (h : Mi.okO Mi.ok5 d = true) (k : okS s = true) : guardO (Mi.okO Mi.ok5 d && Mi.okS s) = some () := guard_ok (by rw [h, k]; rfl)
theorem b1_rep {ws W : List (List Nat)} {form l2 l4 l6 : List Nat} {a b c g : U5} (h1 : sSplit form [32] = some W) (h2 : valsO ws W = some [some (.inr (.inl wRp)), some a, some (.inr (.inl l2)), some b, some (.inr (.inl l4)), some c, some (.inr (.inl l6)), some g]) (ok : ([some (.inr (.inl wRp)), some a, some (.inr (.inl l2)), some b, some (.inr (.inl l4)), some c, some (.inr (.inl l6)), some g] : List (Option U5)).all (Mi.okO Mi.ok5) = true) (o4 : okS l4 = true) : m_l_deed_of_b1 ws () form = some (.inl (some [.inr (.inl wRp), a, b, c, .inr (.inr (.inl (decide (l4 = wIn)))), g])) := by
 unfold m_l_deed_of_b1
 exact bd h1 (bd h2 (bd (x := true) (bd (guard_ok ok) (ift rfl (bd rfl (bd (g2 (by decide +kernel) (by decide +kernel)) rfl)))) (ift rfl (bd rfl (bd rfl (bd rfl (bd rfl (bd (g2 o4 (by decide +kernel)) (bd rfl (bd rfl (bd rfl (bd rfl (bd rfl rfl)))))))))))))
theorem b1_rec {ws W : List (List Nat)} {form l2 l4 : List Nat} {a b c g : U5} (h1 : sSplit form [32] = some W) (h2 : valsO ws W = some [some (.inr (.inl wRc)), some a, some (.inr (.inl l2)), some b, some (.inr (.inl l4)), some c, some g]) (ok : ([some (.inr (.inl wRc)), some a, some (.inr (.inl l2)), some b, some (.inr (.inl l4)), some c, some g] : List (Option U5)).all (Mi.okO Mi.ok5) = true) : m_l_deed_of_b1 ws () form = some (.inl (some [.inr (.inl wRc), a, b, c, g])) := by
 unfold m_l_deed_of_b1
 exact bd h1 (bd h2 (bd (x := false) (bd (guard_ok ok) (ift rfl (bd rfl (bd (g2 (by decide +kernel) (by decide +kernel)) rfl)))) (iff' rfl (bd (x := true) (bd (guard_ok ok) (ift rfl (bd rfl (bd (g2 (by decide +kernel) (by decide +kernel)) rfl)))) (ift rfl (bd rfl (bd rfl (bd rfl (bd rfl (bd rfl (bd rfl (bd rfl (bd rfl rfl)))))))))))))
theorem b1_wd {ws W : List (List Nat)} {form : List Nat} {a : U5} (h1 : sSplit form [32] = some W) (h2 : valsO ws W = some [some (.inr (.inl wWd)), some a]) (ok : ([some (.inr (.inl wWd)), some a] : List (Option U5)).all (Mi.okO Mi.ok5) = true) : m_l_deed_of_b1 ws () form = some (.inl (some [.inr (.inl wWd), a])) := by
 unfold m_l_deed_of_b1
 exact bd h1 (bd h2 (bd (x := false) (bd (guard_ok ok) (ift rfl (bd rfl (bd (g2 (by decide +kernel) (by decide +kernel)) rfl)))) (iff' rfl (bd (x := false) (bd (guard_ok ok) (ift rfl (bd rfl (bd (g2 (by decide +kernel) (by decide +kernel)) rfl)))) (iff' rfl (bd (guard_ok ok) (ift rfl (bd rfl (bd rfl rfl)))))))))
theorem ok_lit {l w : List Nat} (h : Asc w) : Mi.okO Mi.ok5 (litF l w) = true := by
 unfold litF
 split
 · exact asc_okS h
 · rfl
theorem ok_i (x : Option Int) : Mi.okO Mi.ok5 (iF x) = true := by cases x <;> rfl
theorem all_t {α : Type} (xs : List α) : (xs.all fun _ => true) = true := List.all_eq_true.mpr fun _ _ => rfl
theorem ok_z (x : Option (List Int)) : Mi.okO Mi.ok5 (zF x) = true := by
 cases x with
 | none => rfl
 | some z => exact all_t z
theorem ok_b (x : Option (List Bool)) : Mi.okO Mi.ok5 (bF x) = true := by
 cases x with
 | none => rfl
 | some z => exact all_t z
theorem any_of {V : List (Option U5)} {i : Nat} (h : V[i]? = some none) : V.any (·.isNone) = true := List.any_eq_true.mpr ⟨none, List.mem_of_getElem? h, rfl⟩
theorem all_c {V : List (Option U5)} {x : Option U5} (h : Mi.okO Mi.ok5 x = true) (k : V.all (Mi.okO Mi.ok5) = true) : (x :: V).all (Mi.okO Mi.ok5) = true := by rw [List.all_cons, h, k]; rfl
def form8 (sd : List Nat) : List (List Nat) := [61 :: wRp, [115, 104, 105, 112], 61 :: wAt, [104, 111, 117, 114], 61 :: sd, [122, 111, 110, 101], 61 :: wWt, [119, 111, 114, 116, 104]]
def form7 : List (List Nat) := [61 :: wRc, [108, 101, 116, 116, 101, 114], 61 :: wEv, [101, 118, 101, 110, 116], 61 :: wAt, [104, 111, 117, 114], [102, 108, 97, 103, 115]]
def form2 : List (List Nat) := [61 :: wWd, [101, 110, 116, 114, 121]]
theorem vals_off {ws W : List (List Nat)} (h : W.length ≠ ws.length) : valsO ws W = some [none] := iff' (decide_eq_false (by omega)) rfl
theorem off_none {ws W : List (List Nat)} {form : List Nat} (h1 : sSplit form [32] = some W) (h : W.length ≠ ws.length) : m_l_deed_of_b1 ws () form = some (.inr ()) := b1_none h1 (vals_off h) rfl rfl
theorem rng8 : rngO 0 (8 : Int) = some [0, 1, 2, 3, 4, 5, 6, 7] := by rw [rngO_ok (by decide) (by decide) (by decide) (by decide)]; decide
theorem rng7 : rngO 0 (7 : Int) = some [0, 1, 2, 3, 4, 5, 6] := by rw [rngO_ok (by decide) (by decide) (by decide) (by decide)]; decide
theorem rng2 : rngO 0 (2 : Int) = some [0, 1] := by rw [rngO_ok (by decide) (by decide) (by decide) (by decide)]; decide
section
variable {n : Nat}
theorem vals8 (hn : n ≤ 80000) {sd : List Nat} (hs : sd.length ≤ 1000) {w0 w1 w2 w3 w4 w5 w6 w7 : List Nat} (h : ∀ w ∈ [w0, w1, w2, w3, w4, w5, w6, w7], Tx n w) : valsO [w0, w1, w2, w3, w4, w5, w6, w7] (form8 sd) = some [litF wRp w0, iF (limF 3 3 w1), litF wAt w2, iF (limF 3 999 w3), litF sd w4, zF (zonF w5), litF wWt w6, iF (wrtF w7)] := by
 unfold valsO
 refine ift (decide_eq_true rfl) (bd rng8 (bd ?_ rfl))
 refine st (b2_ok rfl rfl (slot_lit (by decide)) (by decide)) (st (b2_ok rfl rfl (slot_ship (h w1 (by simp)) hn) (Nat.le_of_ble_eq_true rfl)) (st (b2_ok rfl rfl (slot_lit (by decide)) (Nat.le_of_ble_eq_true rfl)) (st (b2_ok rfl rfl (slot_hour (h w3 (by simp)) hn) (Nat.le_of_ble_eq_true rfl)) (st (b2_ok rfl rfl (slot_lit hs) (Nat.le_of_ble_eq_true rfl)) (st (b2_ok rfl rfl (slot_zone (h w5 (by simp)) hn) (Nat.le_of_ble_eq_true rfl)) (st (b2_ok rfl rfl (slot_lit (by decide)) (Nat.le_of_ble_eq_true rfl)) (st (b2_ok rfl rfl (slot_worth (h w7 (by simp)) hn) (Nat.le_of_ble_eq_true rfl)) rfl)))))))
theorem vals7 (hn : n ≤ 80000) {w0 w1 w2 w3 w4 w5 w6 : List Nat} (h : ∀ w ∈ [w0, w1, w2, w3, w4, w5, w6], Tx n w) : valsO [w0, w1, w2, w3, w4, w5, w6] form7 = some [litF wRc w0, iF (limF 3 5 w1), litF wEv w2, iF (limF 3 6 w3), litF wAt w4, iF (limF 3 999 w5), bF (flgF w6)] := by
 unfold valsO
 refine ift (decide_eq_true rfl) (bd rng7 (bd ?_ rfl))
 refine st (b2_ok rfl rfl (slot_lit (by decide)) (by decide)) (st (b2_ok rfl rfl (slot_letter (h w1 (by simp)) hn) (Nat.le_of_ble_eq_true rfl)) (st (b2_ok rfl rfl (slot_lit (by decide)) (Nat.le_of_ble_eq_true rfl)) (st (b2_ok rfl rfl (slot_event (h w3 (by simp)) hn) (Nat.le_of_ble_eq_true rfl)) (st (b2_ok rfl rfl (slot_lit (by decide)) (Nat.le_of_ble_eq_true rfl)) (st (b2_ok rfl rfl (slot_hour (h w5 (by simp)) hn) (Nat.le_of_ble_eq_true rfl)) (st (b2_ok rfl rfl (slot_flags (h w6 (by simp)) hn) (Nat.le_of_ble_eq_true rfl)) rfl))))))
theorem vals2 (hn : n ≤ 80000) {w0 w1 : List Nat} (h : ∀ w ∈ [w0, w1], Tx n w) : valsO [w0, w1] form2 = some [litF wWd w0, iF (limF 3 999 w1)] := by
 unfold valsO
 refine ift (decide_eq_true rfl) (bd rng2 (bd ?_ rfl))
 exact st (b2_ok rfl rfl (slot_lit (by decide)) (by decide)) (st (b2_ok rfl rfl (slot_entry (h w1 (by simp)) hn) (Nat.le_of_ble_eq_true rfl)) rfl)
def toE (d : Option (List U5)) : Option (List U5) ⊕ Unit := match d with
 | none => .inr ()
 | some x => .inl (some x)
theorem form8_ok (hn : n ≤ 80000) {sd form : List Nat} (hs : sd.length ≤ 1000) (hd : sd = wIn ∨ sd = wOut) (h1 : sSplit form [32] = some (form8 sd)) {w0 w1 w2 w3 w4 w5 w6 w7 : List Nat} (h : ∀ w ∈ [w0, w1, w2, w3, w4, w5, w6, w7], Tx n w) : m_l_deed_of_b1 [w0, w1, w2, w3, w4, w5, w6, w7] () form = some (toE (if (w0 = wRp ∧ w2 = wAt ∧ w6 = wWt) ∧ w4 = sd then repF w1 w3 w4 w5 w7 else none)) := by
 have V := vals8 hn hs h
 have ok : ([litF wRp w0, iF (limF 3 3 w1), litF wAt w2, iF (limF 3 999 w3), litF sd w4, zF (zonF w5), litF wWt w6, iF (wrtF w7)] : List (Option U5)).all (Mi.okO Mi.ok5) = true := all_c (ok_lit (h w0 (by simp)).asc) (all_c (ok_i _) (all_c (ok_lit (h w2 (by simp)).asc) (all_c (ok_i _) (all_c (ok_lit (h w4 (by simp)).asc) (all_c (ok_z _) (all_c (ok_lit (h w6 (by simp)).asc) (all_c (ok_i _) rfl)))))))
 have no : ∀ (i : Nat), ([litF wRp w0, iF (limF 3 3 w1), litF wAt w2, iF (limF 3 999 w3), litF sd w4, zF (zonF w5), litF wWt w6, iF (wrtF w7)] : List (Option U5))[i]? = some none → m_l_deed_of_b1 [w0, w1, w2, w3, w4, w5, w6, w7] () form = some (.inr ()) := fun i hi => b1_none h1 V ok (any_of hi)
 have bad : (if (w0 = wRp ∧ w2 = wAt ∧ w6 = wWt) ∧ w4 = sd then repF w1 w3 w4 w5 w7 else none) = none → m_l_deed_of_b1 [w0, w1, w2, w3, w4, w5, w6, w7] () form = some (.inr ()) → m_l_deed_of_b1 [w0, w1, w2, w3, w4, w5, w6, w7] () form = some (toE (if (w0 = wRp ∧ w2 = wAt ∧ w6 = wWt) ∧ w4 = sd then repF w1 w3 w4 w5 w7 else none)) := fun e k => by rw [e]; exact k
 have ln : ∀ {l w : List Nat}, ¬ w = l → litF l w = none := fun c => if_neg c
 by_cases c : (w0 = wRp ∧ w2 = wAt ∧ w6 = wWt) ∧ w4 = sd
 · cases k1 : limF 3 3 w1 with
   | none => exact bad (by rw [if_pos c]; unfold repF; rw [k1]; rfl) (no 1 (by rw [k1]; rfl))
   | some a =>
     cases k3 : limF 3 999 w3 with
     | none => exact bad (by rw [if_pos c]; unfold repF; rw [k1, k3]; rfl) (no 3 (by rw [k3]; rfl))
     | some b =>
       cases k5 : zonF w5 with
       | none => exact bad (by rw [if_pos c]; unfold repF; rw [k1, k3, k5]; rfl) (no 5 (by rw [k5]; rfl))
       | some z =>
         cases k7 : wrtF w7 with
         | none => exact bad (by rw [if_pos c]; unfold repF; rw [k1, k3, k5, k7]; rfl) (no 7 (by rw [k7]; rfl))
         | some v =>
           rw [k1, k3, k5, k7, show litF wRp w0 = some (.inr (.inl wRp)) by rw [c.1.1]; exact if_pos rfl, show litF wAt w2 = some (.inr (.inl w2)) from if_pos c.1.2.1, show litF sd w4 = some (.inr (.inl w4)) from if_pos c.2, show litF wWt w6 = some (.inr (.inl w6)) from if_pos c.1.2.2] at V ok
           have r := b1_rep h1 V ok (asc_okS (h w4 (by simp)).asc)
           rw [r, if_pos c]
           unfold repF
           rw [k1, k3, k5, k7]
           show some (Sum.inl (some (dRep a b z (decide (w4 = wIn)) v))) = some (toE (if w4 = wIn then some (dRep a b z true v) else if w4 = wOut then some (dRep a b z false v) else none))
           rcases hd with hd | hd
           · have e : w4 = wIn := by rw [c.2, hd]
             rw [if_pos e, decide_eq_true e]; rfl
           · have e : w4 = wOut := by rw [c.2, hd]
             have e2 : ¬ w4 = wIn := by rw [e]; decide
             rw [if_neg e2, if_pos e, decide_eq_false e2]; rfl
 · refine bad (if_neg c) ?_
   by_cases c0 : w0 = wRp
   · by_cases c2 : w2 = wAt
     · by_cases c6 : w6 = wWt
       · exact no 4 (by rw [ln (fun z => c ⟨⟨c0, c2, c6⟩, z⟩)]; rfl)
       · exact no 6 (by rw [ln c6]; rfl)
     · exact no 2 (by rw [ln c2]; rfl)
   · exact no 0 (by rw [ln c0]; rfl)
theorem form7_ok (hn : n ≤ 80000) {form : List Nat} (h1 : sSplit form [32] = some form7) {w0 w1 w2 w3 w4 w5 w6 : List Nat} (h : ∀ w ∈ [w0, w1, w2, w3, w4, w5, w6], Tx n w) : m_l_deed_of_b1 [w0, w1, w2, w3, w4, w5, w6] () form = some (toE (if w0 = wRc ∧ w2 = wEv ∧ w4 = wAt then recF w1 w3 w5 w6 else none)) := by
 have V := vals7 hn h
 have ok : ([litF wRc w0, iF (limF 3 5 w1), litF wEv w2, iF (limF 3 6 w3), litF wAt w4, iF (limF 3 999 w5), bF (flgF w6)] : List (Option U5)).all (Mi.okO Mi.ok5) = true := all_c (ok_lit (h w0 (by simp)).asc) (all_c (ok_i _) (all_c (ok_lit (h w2 (by simp)).asc) (all_c (ok_i _) (all_c (ok_lit (h w4 (by simp)).asc) (all_c (ok_i _) (all_c (ok_b _) rfl))))))
 have no : ∀ (i : Nat), ([litF wRc w0, iF (limF 3 5 w1), litF wEv w2, iF (limF 3 6 w3), litF wAt w4, iF (limF 3 999 w5), bF (flgF w6)] : List (Option U5))[i]? = some none → m_l_deed_of_b1 [w0, w1, w2, w3, w4, w5, w6] () form = some (.inr ()) := fun i hi => b1_none h1 V ok (any_of hi)
 have bad : (if w0 = wRc ∧ w2 = wEv ∧ w4 = wAt then recF w1 w3 w5 w6 else none) = none → m_l_deed_of_b1 [w0, w1, w2, w3, w4, w5, w6] () form = some (.inr ()) → m_l_deed_of_b1 [w0, w1, w2, w3, w4, w5, w6] () form = some (toE (if w0 = wRc ∧ w2 = wEv ∧ w4 = wAt then recF w1 w3 w5 w6 else none)) := fun e k => by rw [e]; exact k
 have ln : ∀ {l w : List Nat}, ¬ w = l → litF l w = none := fun c => if_neg c
 by_cases c : w0 = wRc ∧ w2 = wEv ∧ w4 = wAt
 · cases k1 : limF 3 5 w1 with
   | none => exact bad (by rw [if_pos c]; unfold recF; rw [k1]; rfl) (no 1 (by rw [k1]; rfl))
   | some a =>
     cases k3 : limF 3 6 w3 with
     | none => exact bad (by rw [if_pos c]; unfold recF; rw [k1, k3]; rfl) (no 3 (by rw [k3]; rfl))
     | some b =>
       cases k5 : limF 3 999 w5 with
       | none => exact bad (by rw [if_pos c]; unfold recF; rw [k1, k3, k5]; rfl) (no 5 (by rw [k5]; rfl))
       | some z =>
         cases k7 : flgF w6 with
         | none => exact bad (by rw [if_pos c]; unfold recF; rw [k1, k3, k5, k7]; rfl) (no 6 (by rw [k7]; rfl))
         | some v =>
           rw [k1, k3, k5, k7, show litF wRc w0 = some (.inr (.inl wRc)) by rw [c.1]; exact if_pos rfl, show litF wEv w2 = some (.inr (.inl w2)) from if_pos c.2.1, show litF wAt w4 = some (.inr (.inl w4)) from if_pos c.2.2] at V ok
           have r := b1_rec h1 V ok
           rw [r, if_pos c]
           unfold recF
           rw [k1, k3, k5, k7]; rfl
 · refine bad (if_neg c) ?_
   by_cases c0 : w0 = wRc
   · by_cases c2 : w2 = wEv
     · exact no 4 (by rw [ln (fun z => c ⟨c0, c2, z⟩)]; rfl)
     · exact no 2 (by rw [ln c2]; rfl)
   · exact no 0 (by rw [ln c0]; rfl)
theorem form2_ok (hn : n ≤ 80000) {form : List Nat} (h1 : sSplit form [32] = some form2) {w0 w1 : List Nat} (h : ∀ w ∈ [w0, w1], Tx n w) : m_l_deed_of_b1 [w0, w1] () form = some (toE (if w0 = wWd then wdF w1 else none)) := by
 have V := vals2 hn h
 have ok : ([litF wWd w0, iF (limF 3 999 w1)] : List (Option U5)).all (Mi.okO Mi.ok5) = true := all_c (ok_lit (h w0 (by simp)).asc) (all_c (ok_i _) rfl)
 by_cases c : w0 = wWd
 · cases k1 : limF 3 999 w1 with
   | none =>
     rw [if_pos c, show wdF w1 = none by unfold wdF; rw [k1]; rfl]
     exact b1_none h1 V ok (any_of (i := 1) (by rw [k1]; rfl))
   | some a =>
     rw [k1, show litF wWd w0 = some (.inr (.inl wWd)) by rw [c]; exact if_pos rfl] at V ok
     have r := b1_wd h1 V ok
     rw [r, if_pos c]
     unfold wdF
     rw [k1]; rfl
 · rw [if_neg c]
   exact b1_none h1 V ok (any_of (i := 0) (by rw [show litF wWd w0 = none from if_neg c]; rfl))
end
abbrev tf1 : List Nat := [61, 114, 101, 112, 111, 114, 116, 32, 115, 104, 105, 112, 32, 61, 97, 116, 32, 104, 111, 117, 114, 32, 61, 105, 110, 32, 122, 111, 110, 101, 32, 61, 119, 101, 105, 103, 104, 116, 32, 119, 111, 114, 116, 104]
abbrev tf2 : List Nat := [61, 114, 101, 112, 111, 114, 116, 32, 115, 104, 105, 112, 32, 61, 97, 116, 32, 104, 111, 117, 114, 32, 61, 111, 117, 116, 32, 122, 111, 110, 101, 32, 61, 119, 101, 105, 103, 104, 116, 32, 119, 111, 114, 116, 104]
abbrev tf3 : List Nat := [61, 114, 101, 99, 101, 105, 118, 101, 32, 108, 101, 116, 116, 101, 114, 32, 61, 101, 118, 101, 110, 116, 32, 101, 118, 101, 110, 116, 32, 61, 97, 116, 32, 104, 111, 117, 114, 32, 102, 108, 97, 103, 115]
abbrev tf4 : List Nat := [61, 119, 105, 116, 104, 100, 114, 97, 119, 32, 101, 110, 116, 114, 121]
theorem sp_f1 : sSplit tf1 [32] = some (form8 wIn) := by decide +kernel
theorem sp_f2 : sSplit tf2 [32] = some (form8 wOut) := by decide +kernel
theorem sp_f3 : sSplit tf3 [32] = some form7 := by decide +kernel
theorem sp_f4 : sSplit tf4 [32] = some form2 := by decide +kernel
theorem fr1 {α ρ : Type} {f : Unit → α → Option (ρ ⊕ Unit)} {x : α} {xs : List α} {r : ρ} (h : f () x = some (.inl r)) : forR f () (x :: xs) = some (.inl r) := by
 show (f () x).bind _ = _
 rw [h]; rfl
theorem fr2 {α ρ : Type} {f : Unit → α → Option (ρ ⊕ Unit)} {x : α} {xs : List α} {r : Option (ρ ⊕ Unit)} (h : f () x = some (.inr ())) (k : forR f () xs = r) : forR f () (x :: xs) = r := by rw [forR_step h]; exact k
theorem deed_words_ok {n : Nat} (hn : n ≤ 80000) {ws : List (List Nat)} (h : ∀ w ∈ ws, Tx n w) : forR (m_l_deed_of_b1 ws) () [tf1, tf2, tf3, tf4] = some (toE (deedF ws)) := by
 by_cases l8 : ws.length = 8
 · match ws, l8, h with
   | [w0, w1, w2, w3, w4, w5, w6, w7], _, h =>
     have a := form8_ok hn (sd := wIn) (by decide) (.inl rfl) sp_f1 h
     have b := form8_ok hn (sd := wOut) (by decide) (.inr rfl) sp_f2 h
     have c3 : m_l_deed_of_b1 [w0, w1, w2, w3, w4, w5, w6, w7] () tf3 = some (.inr ()) := off_none sp_f3 (show (7 : Nat) ≠ 8 by decide)
     have c4 : m_l_deed_of_b1 [w0, w1, w2, w3, w4, w5, w6, w7] () tf4 = some (.inr ()) := off_none sp_f4 (show (2 : Nat) ≠ 8 by decide)
     show _ = some (toE (if w0 = wRp ∧ w2 = wAt ∧ w6 = wWt then repF w1 w3 w4 w5 w7 else none))
     by_cases p : w0 = wRp ∧ w2 = wAt ∧ w6 = wWt
     · rw [if_pos p]
       by_cases q1 : w4 = wIn
       · have q2 : ¬ w4 = wOut := by rw [q1]; decide
         rw [if_pos ⟨p, q1⟩] at a
         rw [if_neg (fun z => q2 z.2)] at b
         cases k : repF w1 w3 w4 w5 w7 with
         | none => rw [k] at a; exact fr2 a (fr2 b (fr2 c3 (fr2 c4 rfl)))
         | some d => rw [k] at a; exact fr1 a
       · rw [if_neg (fun z => q1 z.2)] at a
         by_cases q2 : w4 = wOut
         · rw [if_pos ⟨p, q2⟩] at b
           cases k : repF w1 w3 w4 w5 w7 with
           | none => rw [k] at b; exact fr2 a (fr2 b (fr2 c3 (fr2 c4 rfl)))
           | some d => rw [k] at b; exact fr2 a (fr1 b)
         · rw [if_neg (fun z => q2 z.2)] at b
           have e : repF w1 w3 w4 w5 w7 = none := by
             unfold repF
             cases limF 3 3 w1 with
             | none => rfl
             | some x =>
               cases limF 3 999 w3 with
               | none => rfl
               | some y =>
                 cases zonF w5 with
                 | none => rfl
                 | some z =>
                   cases wrtF w7 with
                   | none => rfl
                   | some v =>
                     show (if w4 = wIn then _ else if w4 = wOut then _ else none) = none
                     rw [if_neg q1, if_neg q2]
           rw [e]
           exact fr2 a (fr2 b (fr2 c3 (fr2 c4 rfl)))
     · rw [if_neg (fun z => p z.1)] at a b
       rw [if_neg p]
       exact fr2 a (fr2 b (fr2 c3 (fr2 c4 rfl)))
 · have c1 : m_l_deed_of_b1 ws () tf1 = some (.inr ()) := off_none sp_f1 (fun z => l8 z.symm)
   have c2 : m_l_deed_of_b1 ws () tf2 = some (.inr ()) := off_none sp_f2 (fun z => l8 z.symm)
   refine fr2 c1 (fr2 c2 ?_)
   by_cases l7 : ws.length = 7
   · match ws, l7, h with
     | [w0, w1, w2, w3, w4, w5, w6], _, h =>
       have a := form7_ok hn sp_f3 h
       have c4 : m_l_deed_of_b1 [w0, w1, w2, w3, w4, w5, w6] () tf4 = some (.inr ()) := off_none sp_f4 (show (2 : Nat) ≠ 7 by decide)
       show _ = some (toE (if w0 = wRc ∧ w2 = wEv ∧ w4 = wAt then recF w1 w3 w5 w6 else none))
       cases k : (if w0 = wRc ∧ w2 = wEv ∧ w4 = wAt then recF w1 w3 w5 w6 else none) with
       | none => rw [k] at a; exact fr2 a (fr2 c4 rfl)
       | some d => rw [k] at a; exact fr1 a
   · have c3 : m_l_deed_of_b1 ws () tf3 = some (.inr ()) := off_none sp_f3 (fun z => l7 z.symm)
     refine fr2 c3 ?_
     by_cases l2 : ws.length = 2
     · match ws, l2, h with
       | [w0, w1], _, h =>
         have a := form2_ok hn sp_f4 h
         show _ = some (toE (if w0 = wWd then wdF w1 else none))
         cases k : (if w0 = wWd then wdF w1 else none) with
         | none => rw [k] at a; exact fr2 a rfl
         | some d => rw [k] at a; exact fr1 a
     · have c4 : m_l_deed_of_b1 ws () tf4 = some (.inr ()) := off_none sp_f4 (fun z => l2 z.symm)
       refine fr2 c4 ?_
       have e : deedF ws = none := by
         match ws, l8, l7, l2 with
         | [], _, _, _ => rfl
         | [_], _, _, _ => rfl
         | [_, _], _, _, z => exact absurd rfl z
         | [_, _, _], _, _, _ => rfl
         | [_, _, _, _], _, _, _ => rfl
         | [_, _, _, _, _], _, _, _ => rfl
         | [_, _, _, _, _, _], _, _, _ => rfl
         | [_, _, _, _, _, _, _], _, z, _ => exact absurd rfl z
         | [_, _, _, _, _, _, _, _], z, _, _ => exact absurd rfl z
         | _ :: _ :: _ :: _ :: _ :: _ :: _ :: _ :: _ :: _, _, _, _ => rfl
       rw [e]; rfl
theorem l_deed_ok {n : Nat} (hn : n ≤ 70000) {s : List Nat} (h : Tx n s) : m_l_deed_of s = some (deedF (splC 32 [] s)) := by
 obtain ⟨e, W⟩ := splitW (c := 32) (by decide) h (by omega)
 have r := deed_words_ok (n := n + 1) (by omega) (ws := splC 32 [] s) (fun w hw => W.mem hw)
 unfold m_l_deed_of
 refine bd e (bd (x := [tf1, tf2, tf3, tf4]) rfl (bd r ?_))
 cases deedF (splC 32 [] s) <;> rfl
theorem forR_index {α σ ρ : Type} {f : σ → Int → Option (ρ ⊕ σ)} {g : σ → Int × α → Option (ρ ⊕ σ)} : ∀ (suf pre : List α) (s : σ), (∀ s (k : Nat) x, (pre ++ suf)[k]? = some x → f s (k : Int) = g s ((k : Int), x)) → forR f s (rng (pre.length : Int) ((pre ++ suf).length : Int)) = forR g s (enumF (pre.length : Int) suf)
 | [], pre, s, _ => by rw [rng_nil (by rw [List.append_nil]; omega)]; rfl
 | x :: suf, pre, s, h => by
   rw [rng_cons (by rw [List.length_append, List.length_cons]; omega)]
   show (f s (pre.length : Int)).bind _ = (g s ((pre.length : Int), x)).bind _
   rw [h s pre.length x (by rw [List.getElem?_append_right (Nat.le_refl _), Nat.sub_self]; rfl)]
   congr 1
   funext s'
   cases s' with
   | inl r => rfl
   | inr s' =>
     have e : pre ++ x :: suf = (pre ++ [x]) ++ suf := by rw [List.append_assoc]; rfl
     have e2 : ((pre ++ [x]).length : Int) = (pre.length : Int) + 1 := by rw [List.length_append]; rfl
     have z := forR_index suf (pre ++ [x]) s' (f := f) (g := g) (fun s k y hy => h s k y (by rw [e]; exact hy))
     rw [e2] at z
     rw [e]; exact z
theorem forR_index0 {α σ ρ : Type} {f : σ → Int → Option (ρ ⊕ σ)} {g : σ → Int × α → Option (ρ ⊕ σ)} (xs : List α) (s : σ) (h : ∀ s (k : Nat) x, xs[k]? = some x → f s (k : Int) = g s ((k : Int), x)) : forR f s (rng 0 (xs.length : Int)) = forR g s (enumF 0 xs) := forR_index xs [] s h
def linesF (s : List Nat) : List (List Nat) := if s = [] then [] else splC 10 [] s
def rdStep {ρ : Type} (F : Int → ρ) (acc : List (List U5)) (x : Int × List Nat) : ρ ⊕ List (List U5) := match deedF (splC 32 [] x.2) with
 | none => .inl (F (x.1 + 1))
 | some d => .inr (acc ++ [d])
theorem run_map {ρ τ : Type} (F : Int → ρ) (G : ρ → τ) : ∀ (xs : List (Int × List Nat)) (acc : List (List U5)), runR (rdStep fun k => G (F k)) acc xs = Sum.map G id (runR (rdStep F) acc xs)
 | [], _ => rfl
 | x :: xs, acc => by
   unfold runR
   unfold rdStep
   cases deedF (splC 32 [] x.2) with
   | none => rfl
   | some d => exact run_map F G xs (acc ++ [d])
theorem runR_some {σ α ρ : Type} (g : σ → α → ρ ⊕ σ) : ∀ (xs : List α) (s : σ), forR (fun s x => some (g s x)) s xs = some (runR g s xs)
 | [], _ => rfl
 | x :: xs, s => by
   unfold runR
   show (some (g s x)).bind _ = _
   rw [Option.bind_some]
   cases g s x with
   | inl r => rfl
   | inr s' => exact runR_some g xs s'
theorem enumF_g {α : Type} : ∀ (xs : List α) (k : Int) {p : Int × α}, p ∈ enumF k xs → ∃ i : Nat, xs[i]? = some p.2 ∧ p.1 = k + i
 | [], _, _, h => nomatch h
 | x :: xs, k, p, h => by
   rcases List.mem_cons.mp (show p ∈ (k, x) :: enumF (k + 1) xs from h) with rfl | h
   · exact ⟨0, rfl, by show k = k + 0; omega⟩
   · obtain ⟨i, h1, h2⟩ := enumF_g xs (k + 1) h
     exact ⟨i + 1, h1, by omega⟩
theorem rd_sz {ρ : Type} (F : Int → ρ) (s : List (List U5)) (x : Int × List Nat) (s' : List (List U5)) (h : rdStep F s x = .inr s') : s'.length ≤ s.length + 1 := by
 unfold rdStep at h
 split at h
 · cases h
 · cases h; rw [List.length_append]; exact Nat.le_refl _
theorem lines_ok {n : Nat} {s : List Nat} (h : Tx n s) : (linesF s).length ≤ n + 1 ∧ ∀ l ∈ linesF s, Tx (n + 1) l := by
 unfold linesF
 split
 · exact ⟨Nat.zero_le _, fun l hl => nomatch hl⟩
 · have W : Wd (n + 1) (splC 10 [] s) := ⟨by rw [splC_sz]; have := h.le; simp; omega, splC_asc 10 s [] h.asc (fun _ h => nomatch h)⟩
   exact ⟨W.len, fun l hl => W.mem hl⟩
def readF (s : List Nat) : Int ⊕ List (List U5) := runR (rdStep id) [] (enumF 0 (linesF s))
theorem sO6 {i : Int} (h0 : 0 ≤ i) (h1 : i ≤ 1000000) : sOfI i = some (sInt i) := if_pos (by omega)
theorem parse_ok {n : Nat} (hn : n ≤ 50000) {s : List Nat} (h : Tx n s) : m_parse_deeds_x s = some (readF s) := by
 obtain ⟨hl, hm⟩ := lines_ok h
 have e1 : m_text_lines s = some (linesF s) := by
   unfold m_text_lines linesF
   by_cases c : s = []
   · rw [if_pos c]; exact ift (decide_eq_true c) rfl
   · rw [if_neg c]; exact iff' (decide_eq_false c) (bd (splitW (c := 10) (by decide) h (by omega)).1 rfl)
 unfold m_parse_deeds_x
 refine bd e1 ?_
 have r := forR_run (f := m_parse_deeds_x_b1) (g := rdStep fun k => (Sum.inl k : Int ⊕ List (List U5))) (fun s => s.length) (enumF 0 (linesF s)) [] (fun acc x hx ha => by
   obtain ⟨i, gi, ei⟩ := enumF_g _ 0 hx
   have il := (List.getElem?_eq_some_iff.mp gi).1
   unfold m_parse_deeds_x_b1 rdStep
   refine bd (read_deed_ok (n := n + 1) (by omega) (hm x.2 (List.mem_of_getElem? gi))) ?_
   cases deedF (splC 32 [] x.2) with
   | none => exact ift rfl (bd (sO6 (by omega) (by omega)) rfl)
   | some d => exact iff' rfl (bd rfl (bd (app_ok (lt_big (Nat.le_of_lt ha))) rfl))) (rd_sz _) (by rw [enumF_length]; show 0 + _ ≤ _; omega)
 rw [r]
 have m : runR (rdStep fun k => (Sum.inl k : Int ⊕ List (List U5))) [] (enumF 0 (linesF s)) = _ := run_map id (fun k => (Sum.inl k : Int ⊕ List (List U5))) (enumF 0 (linesF s)) []
 rw [m]
 unfold readF
 cases runR (rdStep id) [] (enumF 0 (linesF s)) <;> rfl
def dueF (s : List Nat) : Int × Option (List (List U5)) := match readF s with
 | .inl k => (k, none)
 | .inr d => (0, some d)
theorem reading_ok {n : Nat} (hn : n ≤ 50000) {s : List Nat} (h : Tx n s) : m_l_reading s = some (dueF s) := by
 obtain ⟨hl, hm⟩ := lines_ok h
 unfold m_l_reading
 by_cases c : s = []
 · refine ift (decide_eq_true c) ?_
   unfold dueF readF linesF
   rw [if_pos c]; rfl
 · refine iff' (decide_eq_false c) ?_
   have el : linesF s = splC 10 [] s := if_neg c
   rw [el] at hl hm
   refine bd (splitW (c := 10) (by decide) h (by omega)).1 (bd (rngO_ok (by decide) (by decide) (by omega) (by omega)) ?_)
   have r1 := forR_run (f := m_l_reading_b1 (splC 10 [] s)) (g := fun acc (k : Int) => rdStep (fun k => (k, (none : Option (List (List U5))))) acc (k, (splC 10 [] s)[k.toNat]?.getD [])) (fun s => s.length) (rng 0 ((splC 10 [] s).length : Int)) [] (fun acc k hk ha => by
     obtain ⟨k0, k1⟩ := mem_rng.mp hk
     obtain ⟨l, e1, e2⟩ := at_some (xs := splC 10 [] s) k0 k1
     unfold m_l_reading_b1 rdStep
     dsimp only
     rw [e2, Option.getD_some]
     refine bd e1 (bd (l_deed_ok (n := n + 1) (by omega) (hm l (List.mem_of_getElem? e2))) ?_)
     cases deedF (splC 32 [] l) with
     | none => exact ift rfl rfl
     | some d => exact iff' rfl (bd rfl (bd (app_ok (lt_big (Nat.le_of_lt ha))) rfl))) (fun _ _ _ h => rd_sz _ _ _ _ h) (by rw [rng_length]; show 0 + _ ≤ _; omega)
   have r2 := forR_index0 (f := fun acc (k : Int) => some (rdStep (fun k => (k, (none : Option (List (List U5))))) acc (k, (splC 10 [] s)[k.toNat]?.getD []))) (g := fun acc x => some (rdStep (fun k => (k, (none : Option (List (List U5))))) acc x)) (splC 10 [] s) [] (fun acc k x hx => by rw [Int.toNat_natCast, hx, Option.getD_some])
   rw [runR_some, runR_some] at r2
   rw [r1, r2]
   have m := run_map id (fun k => (k, (none : Option (List (List U5))))) (enumF 0 (splC 10 [] s)) []
   have m' : runR (rdStep fun k => (k, (none : Option (List (List U5))))) [] (enumF 0 (splC 10 [] s)) = _ := m
   rw [m']
   unfold dueF readF
   rw [el]
   cases runR (rdStep id) [] (enumF 0 (splC 10 [] s)) <;> rfl
theorem alike5w {d : U5} (h : ∀ n, len5 d = some n → n ≤ 1000000) : m_l_alike_v5 d d = some true := by
 unfold m_l_alike_v5
 rcases d with i | s | b | xs | xs
 · refine iff' rfl (ift rfl (bd (x := true) (bd (x := true) rfl (ift rfl (bd (x := true) ?_ rfl))) rfl))
   show some (decide (i = i)) = some true
   rw [decide_eq_true rfl]
 · refine iff' rfl (iff' rfl (ift rfl (bd (x := true) (ift rfl (bd (x := true) ?_ rfl)) rfl)))
   show some (decide (s = s)) = some true
   rw [decide_eq_true rfl]
 · refine ift rfl (bd (x := true) (ift rfl (bd (x := true) ?_ rfl)) rfl)
   show some (decide (b = b)) = some true
   rw [decide_eq_true rfl]
 · have hl := h xs.length rfl
   refine iff' rfl (iff' rfl (iff' rfl (iff' rfl (iff' rfl (bd (x := (xs.length : Int)) rfl (bd (x := (xs.length : Int)) rfl (iff' (by rw [decide_eq_true rfl]; rfl) (bd (x := (xs.length : Int)) rfl (bd (rngO_ok (by decide) (by decide) (by omega) (by omega)) (bd (forR_all fun x hx => ?_) rfl))))))))))
   obtain ⟨x0, x1⟩ := mem_rng.mp hx
   obtain ⟨y, e, _⟩ := at_mem x0 x1
   have e5 : it5 (.inr (.inr (.inr (.inl xs)))) x = some (.inl y) := by
     show (at_ xs x).map _ = _
     rw [e]; rfl
   exact bd e5 (bd e5 (bd (alike2 _) rfl))
 · have hl := h xs.length rfl
   refine iff' rfl (iff' rfl (iff' rfl (iff' rfl (iff' rfl (bd (x := (xs.length : Int)) rfl (bd (x := (xs.length : Int)) rfl (iff' (by rw [decide_eq_true rfl]; rfl) (bd (x := (xs.length : Int)) rfl (bd (rngO_ok (by decide) (by decide) (by omega) (by omega)) (bd (forR_all fun x hx => ?_) rfl))))))))))
   obtain ⟨x0, x1⟩ := mem_rng.mp hx
   obtain ⟨y, e, _⟩ := at_mem x0 x1
   have e5 : it5 (.inr (.inr (.inr (.inr xs)))) x = some (.inr y) := by
     show (at_ xs x).map _ = _
     rw [e]; rfl
   exact bd e5 (bd e5 (bd (alike2 _) rfl))
def Shr (d : List U5) : Prop := d.length ≤ 10 ∧ ∀ x ∈ d, ∀ n, len5 x = some n → n ≤ 1000000
theorem alike1w {d : List U5} (h : Shr d) : m_l_alike_v1 d d = some true := by
 have hn := h.1
 unfold m_l_alike_v1
 refine iff' rfl (iff' rfl (iff' (by rw [decide_eq_true rfl]; rfl) (bd (rngO_ok (by decide) (by decide) (by omega) (by omega)) (bd (forR_all fun x hx => ?_) rfl))))
 obtain ⟨x0, x1⟩ := mem_rng.mp hx
 obtain ⟨y, e, hy⟩ := at_mem x0 x1
 exact bd e (bd e (bd (alike5w (h.2 y hy)) rfl))
theorem alikel {d : List (List U5)} (hn : d.length ≤ 1000000) (hd : ∀ x ∈ d, Shr x) : m_l_alike_vl d d = some true := by
 unfold m_l_alike_vl
 refine iff' rfl (iff' rfl (iff' (by rw [decide_eq_true rfl]; rfl) (bd (rngO_ok (by decide) (by decide) (by omega) (by omega)) (bd (forR_all fun x hx => ?_) rfl))))
 obtain ⟨x0, x1⟩ := mem_rng.mp hx
 obtain ⟨y, e, hy⟩ := at_mem x0 x1
 exact bd e (bd e (bd (alike1w (hd y hy)) rfl))
theorem z_run : ∀ (xs : List (List Nat)) (acc z : List Int), runR zstep acc xs = .inr z → z.length ≤ acc.length + xs.length
 | [], acc, z, h => by cases h; simp
 | x :: xs, acc, z, h => by
   unfold runR at h
   cases k : zstep acc x with
   | inl r => rw [k] at h; cases h
   | inr a =>
     rw [k] at h
     have ih := z_run xs a z h
     unfold zstep at k
     split at k
     · cases k
     · split at k
       · cases k
       · cases k; rw [List.length_append] at ih; simp at ih ⊢; omega
theorem z_inl : ∀ (xs : List (List Nat)) (acc : List Int) (r : Option (List Int)), runR zstep acc xs = .inl r → r = none
 | [], acc, r, h => by cases h
 | x :: xs, acc, r, h => by
   unfold runR at h
   cases k : zstep acc x with
   | inl r' =>
     rw [k] at h
     cases h
     unfold zstep at k
     split at k
     · cases k; rfl
     · split at k
       · cases k; rfl
       · cases k
   | inr a => rw [k] at h; exact z_inl xs a r h
theorem zon_len {n : Nat} {s : List Nat} (h : Tx n s) {z : List Int} (k : zonF s = some z) : z.length ≤ n + 1 := by
 unfold zonF at k
 split at k
 · cases k; exact Nat.zero_le _
 · have W : Wd (n + 1) (splC 44 [] s) := ⟨by rw [splC_sz]; have := h.le; simp; omega, splC_asc 44 s [] h.asc (fun _ h => nomatch h)⟩
   cases e : runR zstep [] (splC 44 [] s) with
   | inl r =>
     rw [e] at k
     rw [z_inl _ _ _ e] at k
     cases k
   | inr a =>
     rw [e] at k
     cases k
     have := z_run _ _ _ e
     have := W.len
     simp at *; omega
theorem deed_shr {n : Nat} (hn : n ≤ 80000) {ws : List (List Nat)} (h : ∀ w ∈ ws, Tx n w) {d : List U5} (k : deedF ws = some d) : Shr d := by
 unfold deedF at k
 split at k
 · rename_i w0 w1 w2 w3 w4 w5 w6 w7
   split at k
   · unfold repF at k
     obtain ⟨a, _, k⟩ := Option.bind_eq_some_iff.mp k
     obtain ⟨b, _, k⟩ := Option.bind_eq_some_iff.mp k
     obtain ⟨z, e, k⟩ := Option.bind_eq_some_iff.mp k
     obtain ⟨v, _, k⟩ := Option.bind_eq_some_iff.mp k
     have zl := zon_len (h w5 (by simp)) e
     have g : ∀ b', Shr (dRep a b z b' v) := fun b' => ⟨Nat.le_of_ble_eq_true rfl, fun x hx m em => by
       unfold dRep at hx
       simp only [List.mem_cons, List.not_mem_nil, or_false] at hx
       rcases hx with rfl | rfl | rfl | rfl | rfl | rfl
       · cases em
       · cases em
       · cases em
       · cases em; omega
       · cases em
       · cases em⟩
     split at k
     · cases k; exact g true
     · split at k
       · cases k; exact g false
       · cases k
   · cases k
 · split at k
   · unfold recF at k
     obtain ⟨a, _, k⟩ := Option.bind_eq_some_iff.mp k
     obtain ⟨b, _, k⟩ := Option.bind_eq_some_iff.mp k
     obtain ⟨z, _, k⟩ := Option.bind_eq_some_iff.mp k
     obtain ⟨fl, e, k⟩ := Option.bind_eq_some_iff.mp k
     have lf : fl.length ≤ 4 := by
       unfold flgF at e
       split at e
       · cases e
       · rename_i c
         cases e
         rw [List.length_map]
         exact Nat.le_of_not_lt fun z => c (.inl (.inr z))
     cases k
     refine ⟨Nat.le_of_ble_eq_true rfl, fun x hx m em => ?_⟩
     unfold dRec at hx
     simp only [List.mem_cons, List.not_mem_nil, or_false] at hx
     rcases hx with rfl | rfl | rfl | rfl | rfl
     · cases em
     · cases em
     · cases em
     · cases em
     · cases em; omega
   · cases k
 · split at k
   · unfold wdF at k
     obtain ⟨a, _, k⟩ := Option.bind_eq_some_iff.mp k
     cases k
     refine ⟨Nat.le_of_ble_eq_true rfl, fun x hx m em => ?_⟩
     unfold dWd at hx
     simp only [List.mem_cons, List.not_mem_nil, or_false] at hx
     rcases hx with rfl | rfl <;> cases em
   · cases k
 · cases k
theorem read_shr {n : Nat} (hn : n ≤ 50000) : ∀ (xs : List (Int × List Nat)) (acc d : List (List U5)), (∀ x ∈ xs, Tx n x.2) → (∀ x ∈ acc, Shr x) → runR (rdStep (id : Int → Int)) acc xs = .inr d → (∀ x ∈ d, Shr x) ∧ d.length ≤ acc.length + xs.length
 | [], acc, d, _, ha, h => by cases h; exact ⟨ha, by simp⟩
 | x :: xs, acc, d, hx, ha, h => by
   unfold runR rdStep at h
   cases k : deedF (splC 32 [] x.2) with
   | none => rw [k] at h; cases h
   | some e =>
     rw [k] at h
     have T := hx x (List.mem_cons_self ..)
     have W : Wd (n + 1) (splC 32 [] x.2) := ⟨by rw [splC_sz]; have := T.le; simp; omega, splC_asc 32 x.2 [] T.asc (fun _ h => nomatch h)⟩
     have s := deed_shr (n := n + 1) (by omega) (fun w hw => W.mem hw) k
     obtain ⟨r1, r2⟩ := read_shr hn xs (acc ++ [e]) d (fun y hy => hx y (List.mem_cons_of_mem _ hy)) (fun y hy => (List.mem_append.mp hy).elim (ha y) fun z => by rw [List.mem_singleton] at z; rw [z]; exact s) h
     refine ⟨r1, ?_⟩
     rw [List.length_append] at r2
     simp at r2 ⊢; omega
theorem rd_pos : ∀ (xs : List (Int × List Nat)) (acc : List (List U5)) (k : Int), (∀ x ∈ xs, 0 ≤ x.1) → runR (rdStep (id : Int → Int)) acc xs = .inl k → 0 < k
 | [], acc, k, _, h => by cases h
 | x :: xs, acc, k, hx, h => by
   unfold runR rdStep at h
   cases e : deedF (splC 32 [] x.2) with
   | none =>
     rw [e] at h
     cases h
     have := hx x (List.mem_cons_self ..)
     show 0 < x.1 + 1; omega
   | some d => rw [e] at h; exact rd_pos xs _ k (fun y hy => hx y (List.mem_cons_of_mem _ hy)) h
theorem text_ok46 {n : Nat} (hn : n ≤ 40000) {s : List Nat} (h : Tx n s) : m_law_b2 () s = some (.inr ()) := by
 obtain ⟨hl, hm⟩ := lines_ok h
 have en : ∀ x ∈ enumF 0 (linesF s), Tx (n + 1) x.2 ∧ 0 ≤ x.1 := fun x hx => by
   obtain ⟨i, gi, ei⟩ := enumF_g _ 0 hx
   exact ⟨hm x.2 (List.mem_of_getElem? gi), by omega⟩
 have p := parse_ok (n := n) (by omega) h
 unfold m_law_b2
 refine bd (reading_ok (n := n) (by omega) h) ?_
 unfold dueF
 cases e : readF s with
 | inl k =>
   rw [e] at p
   have kp : 0 < k := rd_pos _ _ k (fun x hx => (en x hx).2) e
   have a : m_l_asked s = some (true, .inl k) := by unfold m_l_asked; exact bd p rfl
   have b : m_l_by_base s = some true := by unfold m_l_by_base; exact bd p rfl
   have al : m_l_alike_0 (true, k) (true, k) = some true := by
     unfold m_l_alike_0 m_l_alike_vb m_l_alike_vi
     refine iff' rfl (iff' rfl (iff' (by rw [decide_eq_true rfl]; rfl) (bd (ift rfl rfl) (iff' rfl (bd (x := true) (ift rfl (bd (x := true) (bd (x := true) rfl (ift rfl ?_)) rfl)) (iff' rfl rfl))))))
     rw [decide_eq_true rfl]
   exact bd a (bd (x := .inr ()) (ift (decide_eq_true kp) (bd (x := (true, k)) rfl (bd (x := false) (bd al (iff' rfl (bd b rfl))) (iff' rfl rfl)))) rfl)
 | inr d =>
   rw [e] at p
   obtain ⟨sh, dl⟩ := read_shr (n := n + 1) (by omega) _ _ _ (fun x hx => (en x hx).1) (fun _ h => absurd h List.not_mem_nil) e
   have dl' : d.length ≤ n + 1 := by
     rw [enumF_length] at dl
     have : d.length ≤ 0 + (linesF s).length := dl
     clear dl; omega
   have a : m_l_asked s = some (false, .inr d) := by unfold m_l_asked; exact bd p rfl
   have al : m_l_alike_1 (false, d) (false, d) = some true := by
     unfold m_l_alike_1 m_l_alike_vb
     exact iff' rfl (iff' rfl (iff' (by rw [decide_eq_true rfl]; rfl) (bd (ift rfl rfl) (iff' rfl (bd (alikel (by show d.length ≤ _; omega) sh) (iff' rfl rfl))))))
   exact bd a (bd (x := .inr ()) (iff' rfl (bd (x := (false, d)) rfl (bd (x := (0, d)) rfl (bd al (iff' rfl (bd (app_ok (lt_big (by show d.length ≤ _; omega))) rfl)))))) rfl)
theorem pick_any46 {h : List Int} (hh : Hd h) {n : Int} (hN : n < 2 ^ 200) : ∃ r h', m_l_pick h n = some (r, h') ∧ 0 ≤ r ∧ (1 ≤ n → r < n) ∧ Hd h' := by
 by_cases c : n < 1
 · exact ⟨0, h, by unfold m_l_pick; exact ift (decide_eq_true c) rfl, Int.le_refl _, fun z => by omega, hh⟩
 · obtain ⟨r, h', e, r0, r1, k⟩ := pick_ok hh (n := n) (by omega) hN
   exact ⟨r, h', e, r0, fun _ => r1, k⟩
theorem one_tx {s : List Nat} (h : (s.all fun c => decide (c < 128)) = true) (hl : s.length ≤ 100000) {i : Int} (h0 : 0 ≤ i) (h1 : i < s.length) : ∃ t, sAt s i = some t ∧ Tx 1 t := by
 obtain ⟨e, m⟩ := sAt_ok hl h0 h1
 exact ⟨_, e, Nat.le_refl 1, fun c hc => by rw [List.mem_singleton] at hc; rw [hc]; exact of_decide_eq_true (List.all_eq_true.mp h _ m)⟩
abbrev chA : List Nat := [32, 33, 34, 35, 36, 38, 39, 40, 41, 42, 43, 44, 45, 46, 47, 48, 49, 50, 51, 52, 53, 54, 55, 56, 57, 58, 59, 60, 61, 62, 63, 64, 65, 66, 67, 68, 69, 70, 71, 72, 73, 74, 75, 76, 77, 78, 79, 80, 81, 82, 83, 84, 85, 86, 87, 88, 89, 90, 91, 92, 93, 94, 95, 96]
abbrev chB : List Nat := [97, 98, 99, 100, 101, 102, 103, 104, 105, 106, 107, 108, 109, 110, 111, 112, 113, 114, 115, 116, 117, 118, 119, 120, 121, 122, 123, 124, 125, 126]
theorem sign_ok {h : List Int} (hh : Hd h) : ∃ t h', m_l_sign h = some (t, h') ∧ Tx 1 t ∧ Hd h' := by
 unfold m_l_sign
 obtain ⟨a, h1, e1, a0, a1, g1⟩ := pick_ok hh (n := 2) (by decide) (by decide)
 refine bdP e1 ?_
 by_cases c : a = 0
 · obtain ⟨b, h2, e2, b0, b1, g2⟩ := pick_ok g1 (n := 20) (by decide) (by decide)
   obtain ⟨t, e3, ht⟩ := one_tx (s := [48, 49, 50, 51, 52, 53, 54, 55, 56, 57, 44, 45, 64, 32, 107, 115, 105, 110, 121, 116]) (by decide) (by decide) b0 b1
   exact iftP (decide_eq_true c) (bdP e2 (bdP e3 ⟨_, _, rfl, ht, g2⟩))
 · refine iffP (decide_eq_false c) (ltP' (bdP (sCat_ok (by decide)) (ltP' (bdP (sLen_ok (by decide)) ?_))))
   obtain ⟨b, h2, e2, b0, b1, g2⟩ := pick_ok g1 (n := 94) (by decide) (by decide)
   obtain ⟨t, e3, ht⟩ := one_tx (s := chA ++ chB) (by decide) (by decide) b0 (by rw [show (chA ++ chB).length = 94 by decide]; exact b1)
   exact bdP e2 (bdP e3 ⟨_, _, rfl, ht, g2⟩)
theorem upC_lt {c : Nat} (h : c < 128) : upC c < 128 := by unfold upC; split <;> omega
theorem bent_ok {h : List Int} (hh : Hd h) {n : Nat} (hn : n ≤ 40000) {w : List Nat} (W : Tx n w) : ∃ t h', m_l_bent h w = some (t, h') ∧ Tx (n + 1 + n) t ∧ Hd h' := by
 unfold m_l_bent
 obtain ⟨k, h1, e1, k0, k1, g1⟩ := pick_ok hh (n := 8) (by decide) (by decide)
 have wl := W.le
 obtain ⟨p, h2, e2, p0, p1, g2⟩ := pick_ok g1 (n := (w.length : Int) + 1) (by omega) (by omega)
 obtain ⟨t, h3, e3, ht, g3⟩ := sign_ok g2
 refine bdP e1 (bdP (sLenT W (by omega)) (bdP e2 (bdP e3 ?_)))
 have z : Tx 1 [48] := tx_c rfl
 have cm : Tx 1 [44] := tx_c rfl
 have cA := W.cut none (some p)
 have cB := W.cut (some (p + 1)) none
 have cC := W.cut (some p) none
 have kA := sCutT W (by omega) none (some p)
 have kB := sCutT W (by omega) (some (p + 1)) none
 have kC := sCutT W (by omega) (some p) none
 by_cases c4 : k < 4
 · have u : sUp w = some (w.map upC) := if_pos (by
     rw [Bool.and_eq_true]
     exact ⟨List.all_eq_true.mpr fun c hc => decide_eq_true (W.asc c hc), decide_eq_true (le_big (by omega))⟩)
   have hu : Tx n (w.map upC) := ⟨by rw [List.length_map]; exact wl, fun c hc => by
     obtain ⟨d, hd, rfl⟩ := List.mem_map.mp hc
     exact upC_lt (W.asc d hd)⟩
   obtain ⟨y, ey, my⟩ := at_mem (xs := [[48] ++ w, w ++ [48], w ++ [44], w.map upC]) k0 c4
   refine iftP (decide_eq_true c4) (bdP (sCatT z W (by omega)) (bdP (sCatT W z (by omega)) (bdP (sCatT W cm (by omega)) (bdP u (bdP ey ⟨_, _, rfl, ?_, g3⟩)))))
   simp only [List.mem_cons, List.not_mem_nil, or_false] at my
   rcases my with rfl | rfl | rfl | rfl
   · exact (z.app W).mono (by omega)
   · exact (W.app z).mono (by omega)
   · exact (W.app cm).mono (by omega)
   · exact hu.mono (by omega)
 · refine iffP (decide_eq_false c4) ?_
   by_cases c6 : k < 6
   · exact iftP (decide_eq_true c6) (bdP kA (bdP (sCatT cA ht (by omega)) (bdP kB (bdP (sCatT (cA.app ht) cB (by omega)) ⟨_, _, rfl, (cA.app ht).app cB, g3⟩))))
   · refine iffP (decide_eq_false c6) ?_
     by_cases c7 : k = 6
     · exact iftP (decide_eq_true c7) (bdP kA (bdP (sCatT cA ht (by omega)) (bdP kC (bdP (sCatT (cA.app ht) cC (by omega)) ⟨_, _, rfl, (cA.app ht).app cC, g3⟩))))
     · exact iffP (decide_eq_false c7) (bdP kA (bdP kB (bdP (sCatT cA cB (by omega)) ⟨_, _, rfl, (cA.app cB).mono (by omega), g3⟩)))
abbrev lotA : List Nat := [48, 32, 49, 32, 51, 32, 52, 32, 53, 32, 54, 32, 55, 32, 57, 32, 49, 49, 32, 49, 50, 32, 57, 57, 32, 49, 48, 48, 32, 57, 57, 57, 32, 49, 48, 48, 48, 32, 48, 48, 32, 48, 49, 32, 45, 32, 45, 49, 32, 43, 49, 32, 48, 44, 49, 32, 49, 44, 48, 32, 49, 44, 49, 32, 50, 44, 49, 48, 32, 49, 48, 44, 50, 32, 48, 44, 49, 44, 32, 44, 48, 32, 48, 44, 49, 50, 32, 49, 46, 53, 32, 121, 32, 110, 32, 121, 110, 32, 121, 121, 121, 121]
abbrev lotB : List Nat := [32, 110, 110, 110, 110, 110, 32, 121, 120, 32, 89, 32, 110, 121, 44, 32, 114, 101, 112, 111, 114, 116, 32, 114, 101, 99, 101, 105, 118, 101, 32, 119, 105, 116, 104, 100, 114, 97, 119, 32, 97, 116, 32, 105, 110, 32, 111, 117, 116, 32, 119, 101, 105, 103, 104, 116, 32, 101, 118, 101, 110, 116, 32, 82, 101, 112, 111, 114, 116, 32, 108, 101, 116, 116, 101, 114]
theorem rep9 : sRep [57] 5000 = some (List.replicate 5000 57) := by
 unfold sRep
 rw [if_pos ⟨by decide, by decide, by decide⟩]
 exact congrArg some (rep_flat 57 5000)
theorem strange_ok {h : List Int} (hh : Hd h) : ∃ t h', m_l_strange h = some (t, h') ∧ Tx 5000 t ∧ Hd h' := by
 have T : Tx 300 (lotA ++ lotB) := tx_c (by decide)
 obtain ⟨e1, W⟩ := splitW (c := 32) (by decide) T (by decide)
 have R : Tx 5000 (List.replicate 5000 57) := ⟨by rw [List.length_replicate]; exact Nat.le_refl _, fun c hc => by rw [List.eq_of_mem_replicate hc]; decide⟩
 have e2 : cat (splC 32 [] (lotA ++ lotB)) [[], List.replicate 5000 57] = some (splC 32 [] (lotA ++ lotB) ++ [[], List.replicate 5000 57]) := cat_ok (le_big (by have := W.len; show _ + 2 ≤ _; omega))
 have hl : (splC 32 [] (lotA ++ lotB) ++ [[], List.replicate 5000 57]).length ≤ 400 := by
   rw [List.length_append]
   have := W.len
   show _ + 2 ≤ _; omega
 have hp : 1 ≤ (splC 32 [] (lotA ++ lotB) ++ [[], List.replicate 5000 57]).length := by
   rw [List.length_append]
   show 1 ≤ _ + 2; omega
 unfold m_l_strange
 obtain ⟨k, h1, e3, k0, k1, g1⟩ := pick_ok hh (n := ((splC 32 [] (lotA ++ lotB) ++ [[], List.replicate 5000 57]).length : Int)) (by omega) (by omega)
 obtain ⟨y, ey, my⟩ := at_mem k0 k1
 refine ltP' (bdP (sCat_ok (by decide)) (ltP' (bdP e1 (bdP rep9 (bdP e2 (bdP e3 (bdP ey ⟨_, _, rfl, ?_, g1⟩)))))))
 rcases List.mem_append.mp my with my | my
 · exact (W.mem my).mono (by decide)
 · simp only [List.mem_cons, List.not_mem_nil, or_false] at my
   rcases my with rfl | rfl
   · exact ⟨Nat.zero_le _, fun _ h => nomatch h⟩
   · exact R
theorem Wd.set {n m : Nat} {W : List (List Nat)} {w : List Nat} (h : Wd n W) (k : Tx m w) (i : Nat) : Wd (n + (m + 1)) (W.set i w) := ⟨by
 have e : ∀ (W : List (List Nat)) (i : Nat), szW (W.set i w) ≤ szW W + (w.length + 1) := by
   intro W
   induction W with
   | nil => intro i; exact Nat.zero_le _
   | cons x W ih =>
     intro i
     cases i with
     | zero => show (w.length + 1) + szW W ≤ ((x.length + 1) + szW W) + (w.length + 1); omega
     | succ i =>
       have := ih i
       show (x.length + 1) + szW (W.set i w) ≤ ((x.length + 1) + szW W) + (w.length + 1); omega
 have := e W i
 have := h.le
 have := k.le
 omega, fun x hx => by
 rcases List.mem_or_eq_of_mem_set hx with hx | rfl
 · exact h.asc x hx
 · exact k.asc⟩
theorem nil_tx : Tx 0 ([] : List Nat) := ⟨Nat.le_refl _, fun _ h => nomatch h⟩
theorem changed46_ok {h : List Int} (hh : Hd h) {n m : Nat} (hn : n ≤ 1000) (hm : m ≤ 1000) {W V : List (List Nat)} (hW : Wd n W) (hV : Wd m V) (hne : W ≠ []) : ∃ U h', m_l_changed h W V = some (U, h') ∧ Wd (4 * n + m + 5010) U ∧ Hd h' := by
 have hl := hW.len
 have hp := List.length_pos_iff.mpr hne
 unfold m_l_changed
 obtain ⟨k, h1, e1, k0, k1, g1⟩ := pick_ok hh (n := 14) (by decide) (by decide)
 obtain ⟨p, h2, e2, p0, p1, g2⟩ := pick_ok g1 (n := (W.length : Int)) (by omega) (by omega)
 obtain ⟨q, h3, e3, q0, q1, g3⟩ := pick_ok g2 (n := (W.length : Int) + 1) (by omega) (by omega)
 refine bdP e1 (bdP e2 (bdP e3 ?_))
 have cP := hW.cut none (some p)
 have cP1 := hW.cut none (some (p + 1))
 have dP := hW.cut (some p) none
 have dP1 := hW.cut (some (p + 1)) none
 have cQ := hW.cut none (some q)
 have dQ := hW.cut (some q) none
 by_cases c : k < 3
 · exact iftP (decide_eq_true c) ⟨_, _, rfl, hW.mono (by omega), g3⟩
 refine iffP (decide_eq_false c) ?_
 clear c
 by_cases c : k = 3
 · exact iftP (decide_eq_true c) (bdP (catW cP dP1 (by omega)) ⟨_, _, rfl, (cP.app dP1).mono (by omega), g3⟩)
 refine iffP (decide_eq_false c) ?_
 clear c
 by_cases c : k = 4
 · exact iftP (decide_eq_true c) (bdP (catW cP1 dP (by omega)) ⟨_, _, rfl, (cP1.app dP).mono (by omega), g3⟩)
 refine iffP (decide_eq_false c) ?_
 clear c
 by_cases c : k = 5
 · obtain ⟨x, ex, mx⟩ := at_mem (xs := W) (i := min q ((W.length : Int) - 1)) (by omega) (by omega)
   obtain ⟨y, ey, my⟩ := at_mem (xs := W) p0 p1
   have X := hW.mem mx
   have Y := hW.mem my
   refine iftP (decide_eq_true c) (bdP ex (bdP (setAt_ok p0 p1) (bdP ey (bdP (setAt_ok (by omega) (by rw [List.length_set]; omega)) ⟨_, _, rfl, ((hW.set X _).set Y _).mono (by omega), g3⟩))))
 refine iffP (decide_eq_false c) ?_
 clear c
 by_cases c : k = 6 ∨ k = 7
 · obtain ⟨y, ey, my⟩ := at_mem (xs := W) p0 p1
   obtain ⟨t, h4, e4, ht, g4⟩ := bent_ok g3 (n := n) (by omega) (hW.mem my)
   have hb : ((decide (k = (6 : Int))) || (decide (k = (7 : Int)))) = true := by rcases c with e | e <;> subst e <;> rfl
   exact iftP hb (bdP ey (bdP e4 (bdP (catW cP (Wd.one ht) (by omega)) (bdP (catW (cP.app (Wd.one ht)) dP1 (by omega)) ⟨_, _, rfl, ((cP.app (Wd.one ht)).app dP1).mono (by omega), g4⟩))))
 have hb : ((decide (k = (6 : Int))) || (decide (k = (7 : Int)))) = false := by
   rw [decide_eq_false (fun e => c (.inl e)), decide_eq_false (fun e => c (.inr e))]; rfl
 refine iffP hb ?_
 clear c hb
 by_cases c : k = 8
 · obtain ⟨t, h4, e4, ht, g4⟩ := strange_ok g3
   exact iftP (decide_eq_true c) (bdP e4 (bdP (catW cP (Wd.one ht) (by omega)) (bdP (catW (cP.app (Wd.one ht)) dP1 (by omega)) ⟨_, _, rfl, ((cP.app (Wd.one ht)).app dP1).mono (by omega), g4⟩)))
 refine iffP (decide_eq_false c) ?_
 clear c
 by_cases c : k = 9
 · obtain ⟨t, h4, e4, ht, g4⟩ := strange_ok g3
   exact iftP (decide_eq_true c) (bdP e4 (bdP (catW cQ (Wd.one ht) (by omega)) (bdP (catW (cQ.app (Wd.one ht)) dQ (by omega)) ⟨_, _, rfl, ((cQ.app (Wd.one ht)).app dQ).mono (by omega), g4⟩)))
 refine iffP (decide_eq_false c) ?_
 clear c
 by_cases c : k = 10
 · exact iftP (decide_eq_true c) ⟨_, _, rfl, cQ.mono (by omega), g3⟩
 refine iffP (decide_eq_false c) ?_
 clear c
 by_cases c : k = 11
 · have dV := hV.cut (some (min p (V.length : Int))) none
   exact iftP (decide_eq_true c) (bdP (catW cQ dV (by omega)) ⟨_, _, rfl, (cQ.app dV).mono (by omega), g3⟩)
 refine iffP (decide_eq_false c) ?_
 have o := Wd.one nil_tx
 exact bdP (catW cQ o (by omega)) (bdP (catW (cQ.app o) dQ (by omega)) ⟨_, _, rfl, ((cQ.app o).app dQ).mono (by omega), g3⟩)
theorem tchanged_ok {h : List Int} (hh : Hd h) {L : List (List Nat)} (hL : Wd 4000 L) (ht : ∀ l ∈ L, Tx 300 l) : ∃ t h', m_l_text_changed h L = some (t, h') ∧ Tx 20000 t ∧ Hd h' := by
 have hl := hL.len
 obtain ⟨ej, J⟩ := joinW (c := 10) (by decide) hL (by decide)
 have jl := J.le
 unfold m_l_text_changed
 obtain ⟨k, h1, e1, k0, k1, g1⟩ := pick_ok hh (n := 13) (by decide) (by decide)
 obtain ⟨p, h2, e2, p0, p1, g2⟩ := pick_any46 g1 (n := (L.length : Int)) (by omega)
 obtain ⟨q, h3, e3, q0, q1, g3⟩ := pick_ok g2 (n := (L.length : Int) + 1) (by omega) (by omega)
 obtain ⟨u, h4, e4, u0, u1, g4⟩ := pick_ok g3 (n := ((joinL [10] L).length : Int) + 1) (by omega) (by omega)
 obtain ⟨sg, h5, e5, hs, g5⟩ := sign_ok g4
 obtain ⟨v, h6, e6, v0, v1, g6⟩ := pick_ok g5 (n := 5) (by decide) (by decide)
 obtain ⟨x, ex, mx⟩ := at_mem (xs := [sg, [10]]) (i := v / 4) (by omega) (by show v / 4 < 2; omega)
 have X : Tx 1 x := by
   simp only [List.mem_cons, List.not_mem_nil, or_false] at mx
   rcases mx with rfl | rfl
   · exact hs
   · exact tx_c rfl
 refine bdP e1 (bdP ej (bdP e2 (bdP e3 (bdP (sLenT J (by decide)) (bdP e4 (bdP e5 (bdP e6 (bdP ex ?_))))))))
 have cU := J.cut none (some u)
 have dU := J.cut (some u) none
 have dU1 := J.cut (some (u + 1)) none
 have kU := sCutT J (by decide) none (some u)
 have lU := sCutT J (by decide) (some u) none
 have lU1 := sCutT J (by decide) (some (u + 1)) none
 have nl : Tx 1 [10] := tx_c rfl
 by_cases c : k < 3 ∨ (L.length : Int) = 0
 · have hb : ((decide (k < (3 : Int))) || (decide ((L.length : Int) = (0 : Int)))) = true := by
     rcases c with e | e
     · rw [decide_eq_true e]; rfl
     · rw [decide_eq_true e, Bool.or_true]
   obtain ⟨y, ey, my⟩ := at_mem (xs := [joinL [10] L, joinL [10] L ++ [10], joinL [10] L]) (i := min k 2) (by omega) (by show min k 2 < 3; omega)
   refine iftP hb (bdP (sCatT J nl (by decide)) (bdP ey ⟨_, _, rfl, ?_, g6⟩))
   simp only [List.mem_cons, List.not_mem_nil, or_false] at my
   rcases my with rfl | rfl | rfl
   · exact J.mono (by decide)
   · exact (J.app nl).mono (by decide)
   · exact J.mono (by decide)
 have hb : ((decide (k < (3 : Int))) || (decide ((L.length : Int) = (0 : Int)))) = false := by
   rw [decide_eq_false (fun e => c (.inl e)), decide_eq_false (fun e => c (.inr e))]; rfl
 have Lp : 1 ≤ (L.length : Int) := by omega
 have p1' := p1 Lp
 refine iffP hb ?_
 clear c hb
 have cP := hL.cut none (some p)
 have dP1 := hL.cut (some (p + 1)) none
 have cQ := hL.cut none (some q)
 have dQ := hL.cut (some q) none
 by_cases c : k = 3
 · obtain ⟨f1, f2⟩ := joinW (c := 10) (by decide) (cP.app dP1) (by decide)
   exact iftP (decide_eq_true c) (bdP (catW cP dP1 (by decide)) (bdP f1 ⟨_, _, rfl, f2.mono (by decide), g6⟩))
 refine iffP (decide_eq_false c) ?_
 clear c
 by_cases c : k = 4
 · have o := Wd.one nil_tx
   obtain ⟨f1, f2⟩ := joinW (c := 10) (by decide) ((cQ.app o).app dQ) (by decide)
   exact iftP (decide_eq_true c) (bdP (catW cQ o (by decide)) (bdP (catW (cQ.app o) dQ (by decide)) (bdP f1 ⟨_, _, rfl, f2.mono (by decide), g6⟩)))
 refine iffP (decide_eq_false c) ?_
 clear c
 by_cases c : k = 5
 · exact iftP (decide_eq_true c) (bdP kU (bdP (sCatT cU X (by decide)) (bdP lU (bdP (sCatT (cU.app X) dU (by decide)) ⟨_, _, rfl, ((cU.app X).app dU).mono (by decide), g6⟩))))
 refine iffP (decide_eq_false c) ?_
 clear c
 by_cases c : k = 6
 · exact iftP (decide_eq_true c) (bdP kU (bdP lU1 (bdP (sCatT cU dU1 (by decide)) ⟨_, _, rfl, (cU.app dU1).mono (by decide), g6⟩)))
 refine iffP (decide_eq_false c) ?_
 clear c
 by_cases c : k = 7
 · exact iftP (decide_eq_true c) (bdP kU (bdP (sCatT cU X (by decide)) (bdP lU1 (bdP (sCatT (cU.app X) dU1 (by decide)) ⟨_, _, rfl, ((cU.app X).app dU1).mono (by decide), g6⟩))))
 refine iffP (decide_eq_false c) ?_
 clear c
 by_cases c : k = 8
 · exact iftP (decide_eq_true c) (bdP kU ⟨_, _, rfl, cU.mono (by decide), g6⟩)
 refine iffP (decide_eq_false c) ?_
 obtain ⟨a, ea, ma⟩ := at_mem (xs := L) (i := min q ((L.length : Int) - 1)) (by omega) (by omega)
 obtain ⟨b, eb, mb⟩ := at_mem (xs := L) p0 p1'
 obtain ⟨s1, w1⟩ := splitW (c := 32) (by decide) (ht a ma) (by decide)
 obtain ⟨s2, w2⟩ := splitW (c := 32) (by decide) (ht b mb) (by decide)
 obtain ⟨U, h7, e7, hU, g7⟩ := changed46_ok g6 (n := 301) (m := 301) (by decide) (by decide) w2 w1 (splC_ne 32 b [])
 obtain ⟨f1, f2⟩ := joinW (c := 32) (by decide) hU (by decide)
 have o := Wd.one f2
 obtain ⟨f3, f4⟩ := joinW (c := 10) (by decide) ((cP.app o).app dP1) (by decide)
 exact bdP ea (bdP s1 (bdP eb (bdP s2 (bdP e7 (bdP f1 (bdP (catW cP o (by decide)) (bdP (catW (cP.app o) dP1 (by decide)) (bdP f3 ⟨_, _, rfl, f4.mono (by decide), g7⟩))))))))
theorem si_asc : ∀ n : Fin 1001, ((sInt ((n.val : Nat) : Int)).all fun c => decide (c < 128)) = true := by decide +kernel
theorem si_tx {i : Int} (h : Num i) : Tx 4 (sInt i) := ⟨si_len h.h0 h.h1, fun c hc => by
 have := si_asc ⟨i.toNat, by have := h.h1; omega⟩
 have e : ((i.toNat : Nat) : Int) = i := by have := h.h0; omega
 simp only [e] at this
 exact of_decide_eq_true (List.all_eq_true.mp this c hc)⟩
theorem zw46 {z : List Int} (h : OkZ z) : m_l_zone_word z = some (zw z) ∧ Tx 60 (zw z) := by
 have hm : ∀ x ∈ z.map sInt, Tx 4 x := fun x hx => by
   obtain ⟨i, hi, rfl⟩ := List.mem_map.mp hx
   exact si_tx (h.nu i hi)
 have hl : (z.map sInt).length ≤ 12 := by rw [List.length_map]; exact h.le
 have W : Wd 60 (z.map sInt) := ⟨by
   have e : ∀ xs : List (List Nat), (∀ x ∈ xs, Tx 4 x) → szW xs ≤ 5 * xs.length := by
     intro xs
     induction xs with
     | nil => intro _; exact Nat.le_refl _
     | cons x xs ih =>
       intro hx
       have a := (hx x (List.mem_cons_self ..)).le
       have b := ih fun y hy => hx y (List.mem_cons_of_mem _ hy)
       show (x.length + 1) + szW xs ≤ 5 * (xs.length + 1); omega
   have := e _ hm
   omega, fun x hx => (hm x hx).asc⟩
 obtain ⟨e1, e2⟩ := joinW (c := 44) (by decide) W (by decide)
 unfold m_l_zone_word zw
 by_cases c : z.length = 0
 · rw [if_pos c]; exact ⟨ift (decide_eq_true (by omega)) rfl, tx_c rfl⟩
 · rw [if_neg c]
   refine ⟨iff' (decide_eq_false (by omega)) ?_, e2⟩
   refine bd (forN_flat (f := m_l_zone_word_b1) (h := fun i => [sInt i]) (fun _ => Nat.le_refl _) (le_big (by have := h.le; show 0 + z.length ≤ 100000; omega)) (fun acc x hx hb => bd (so_ok (h.nu x hx).h0 (h.nu x hx).h1) (bd (app_ok hb) rfl))) ?_
   rw [List.nil_append, flat_sing]
   exact bd e1 rfl
theorem jn_tx : ∀ {fl : List Bool}, Tx fl.length (joinL [] (fl.map yn))
 | [] => ⟨Nat.le_refl _, fun _ h => nomatch h⟩
 | [b] => by cases b <;> exact tx_c rfl
 | b :: c :: fl => by
   have ih := jn_tx (fl := c :: fl)
   have o : Tx 1 (yn b) := by cases b <;> exact tx_c rfl
   have := o.app ih
   exact this.mono (by simp; omega)
theorem row_tx {d : List U5} (h : OkD d) : ∃ t, m_l_row d = some t ∧ Tx 300 t := by
 cases h with
 | @wd h hh =>
   have l1 := si_tx hh
   have c1 : Tx 9 [119, 105, 116, 104, 100, 114, 97, 119, 32] := tx_c rfl
   refine ⟨_, ?_, (c1.app l1).mono (by decide)⟩
   unfold m_l_row
   exact bd (x := .inr (.inl wWd)) rfl (bd (x := .inl wWd) rfl (bd (x := wWd) rfl (ift rfl (bd (x := .inl h) rfl (bd (x := h) rfl (bd (so_ok hh.h0 hh.h1) (bd (sCatT c1 l1 (by decide)) rfl)))))))
 | @rc a b c fl ha hb hc hf =>
   have l1 := si_tx ha
   have l2 := si_tx hb
   have l3 := si_tx hc
   have lj : Tx 4 (joinL [] (fl.map yn)) := jn_tx.mono hf
   have bm : ∀ x ∈ fl.map yn, x.length ≤ 1 := fun x hx => by
     obtain ⟨q, _, rfl⟩ := List.mem_map.mp hx
     exact yn_len q
   have lm : (fl.map yn).length ≤ 4 := by rw [List.length_map]; exact hf
   have sj : sJoin [] (fl.map yn) = some (joinL [] (fl.map yn)) := sj_ok 1 bm (by decide) (by omega) (by decide)
   have k1 : Tx 8 [114, 101, 99, 101, 105, 118, 101, 32] := tx_c rfl
   have k2 : Tx 7 [32, 101, 118, 101, 110, 116, 32] := tx_c rfl
   have k3 : Tx 4 [32, 97, 116, 32] := tx_c rfl
   have k4 : Tx 1 [32] := tx_c rfl
   have q1 := k1.app l1
   have q2 := q1.app k2
   have q3 := q2.app l2
   have q4 := q3.app k3
   have q5 := q4.app l3
   have q6 := q5.app k4
   have q7 := q6.app lj
   refine ⟨_, ?_, q7.mono (by decide)⟩
   unfold m_l_row
   exact bd (x := .inr (.inl wRc)) rfl (bd (x := .inl wRc) rfl (bd (x := wRc) rfl (iff' rfl (bd (x := .inr (.inl wRc)) rfl (bd (x := .inl wRc) rfl (bd (x := wRc) rfl (ift rfl (bd (x := .inr (.inr (.inr (.inr fl)))) rfl (bd (x := .inr (.inr (.inr fl))) rfl (bd (x := .inr (.inr fl)) rfl (bd (x := .inr fl) rfl (bd (x := fl) rfl (bd (flags2 hf) (bd sj (bd (x := .inl a) rfl (bd (x := a) rfl (bd (so_ok ha.h0 ha.h1) (bd (sCatT k1 l1 (by decide)) (bd (sCatT q1 k2 (by decide)) (bd (x := .inl b) rfl (bd (x := b) rfl (bd (so_ok hb.h0 hb.h1) (bd (sCatT q2 l2 (by decide)) (bd (sCatT q3 k3 (by decide)) (bd (x := .inl c) rfl (bd (x := c) rfl (bd (so_ok hc.h0 hc.h1) (bd (sCatT q4 l3 (by decide)) (bd (sCatT q5 k4 (by decide)) (bd (sCatT q6 lj (by decide)) rfl))))))))))))))))))))))))))))))
 | @rp s h w z b hs hh hw hz =>
   obtain ⟨z2, z3⟩ := zw46 hz
   have l1 := si_tx hs
   have l2 := si_tx hh
   have l3 := si_tx hw
   have k1 : Tx 7 [114, 101, 112, 111, 114, 116, 32] := tx_c rfl
   have k2 : Tx 4 [32, 97, 116, 32] := tx_c rfl
   have k3 : Tx 8 [32, 119, 101, 105, 103, 104, 116, 32] := tx_c rfl
   have go : ∀ sd : List Nat, Tx 5 sd → at_ [([32, 111, 117, 116, 32] : List Nat), ([32, 105, 110, 32] : List Nat)] (Mi.bI b) = some sd → ∃ t, m_l_row [.inr (.inl wRp), .inl s, .inl h, .inr (.inr (.inr (.inl z))), .inr (.inr (.inl b)), .inl w] = some t ∧ Tx 300 t := fun sd hsd esd => by
     have q1 := k1.app l1
     have q2 := q1.app k2
     have q3 := q2.app l2
     have q4 := q3.app hsd
     have q5 := q4.app z3
     have q6 := q5.app k3
     have q7 := q6.app l3
     refine ⟨_, ?_, q7.mono (by decide)⟩
     unfold m_l_row
     exact bd (x := .inr (.inl wRp)) rfl (bd (x := .inl wRp) rfl (bd (x := wRp) rfl (iff' rfl (bd (x := .inr (.inl wRp)) rfl (bd (x := .inl wRp) rfl (bd (x := wRp) rfl (iff' rfl (bd (x := .inr (.inr (.inl b))) rfl (bd (x := .inr (.inl b)) rfl (bd (x := .inl b) rfl (bd (x := b) rfl (bd esd (bd (x := .inl s) rfl (bd (x := s) rfl (bd (so_ok hs.h0 hs.h1) (bd (sCatT k1 l1 (by decide)) (bd (sCatT q1 k2 (by decide)) (bd (x := .inl h) rfl (bd (x := h) rfl (bd (so_ok hh.h0 hh.h1) (bd (sCatT q2 l2 (by decide)) (bd (sCatT q3 hsd (by decide)) (bd (x := .inr (.inr (.inr (.inl z)))) rfl (bd (x := .inr (.inr (.inl z))) rfl (bd (x := .inr (.inl z)) rfl (bd (x := .inl z) rfl (bd (x := z) rfl (bd z2 (bd (sCatT q4 z3 (by decide)) (bd (sCatT q5 k3 (by decide)) (bd (x := .inl w) rfl (bd (x := w) rfl (bd (so_ok hw.h0 hw.h1) (bd (sCatT q6 l3 (by decide)) rfl))))))))))))))))))))))))))))))))))
   cases b with
   | true => exact go [32, 105, 110, 32] (tx_c rfl) rfl
   | false => exact go [32, 111, 117, 116, 32] (tx_c rfl) rfl
theorem rows46 : ∀ {l : List (List U5)}, (∀ d ∈ l, OkD d) → ∀ acc : List (List Nat), acc.length + l.length ≤ 100 → ∃ ts, forN m_law_b1 acc l = some (acc ++ ts) ∧ ts.length = l.length ∧ ∀ t ∈ ts, Tx 300 t
 | [], _, acc, _ => ⟨[], by rw [List.append_nil]; rfl, rfl, fun t ht => nomatch ht⟩
 | d :: l, h, acc, hl => by
   rw [List.length_cons] at hl
   obtain ⟨t, e, T⟩ := row_tx (h d (List.mem_cons_self ..))
   obtain ⟨ts, f, g, k⟩ := rows46 (l := l) (fun x hx => h x (List.mem_cons_of_mem _ hx)) (acc ++ [t]) (by rw [List.length_append]; show acc.length + 1 + _ ≤ _; omega)
   refine ⟨t :: ts, ?_, by rw [List.length_cons, List.length_cons, g], fun x hx => ?_⟩
   · have b : m_law_b1 acc d = some (acc ++ [t]) := by unfold m_law_b1; exact bd e (bd (app_ok (lt_big (by omega))) rfl)
     rw [forN_cons, b, Option.bind_some, f, List.append_assoc]; rfl
   · rcases List.mem_cons.mp hx with rfl | hx
     · exact T
     · exact k x hx
theorem law_true (s : List Int) (hs : s.length ≤ 63) : m_law s = some true := by
 unfold m_law
 obtain ⟨h0, e0, g0⟩ := hand_ok s 0 (by decide)
 obtain ⟨c, h1, e1, c0, c1, g1⟩ := pick_ok g0 (n := 13) (by decide) (by decide)
 obtain ⟨l, e2, hl, ll⟩ := lot_ok (s := s) (a := 1) (n := c) (by decide) c0 (by omega)
 obtain ⟨ts, e3, tl, tt⟩ := rows46 hl [] (by show 0 + _ ≤ _; omega)
 rw [List.nil_append] at e3
 obtain ⟨h2, e4, g2⟩ := hand_ok s 13 (by decide)
 have W : Wd 4000 ts := ⟨by
   have e : ∀ xs : List (List Nat), (∀ x ∈ xs, Tx 300 x) → szW xs ≤ 301 * xs.length := by
     intro xs
     induction xs with
     | nil => intro _; exact Nat.le_refl _
     | cons x xs ih =>
       intro hx
       have a := (hx x (List.mem_cons_self ..)).le
       have b := ih fun y hy => hx y (List.mem_cons_of_mem _ hy)
       show (x.length + 1) + szW xs ≤ 301 * (xs.length + 1); omega
   have := e _ tt
   omega, fun x hx => (tt x hx).asc⟩
 obtain ⟨t, h3, e5, T, _⟩ := tchanged_ok g2 W tt
 obtain ⟨e6, J⟩ := joinW (c := 10) (by decide) W (by decide)
 refine bd e0 (bd e1 (bd e2 (bd e3 (bd e4 (bd e5 (bd e6 (bd (x := .inr ()) (forR_all fun x hx => ?_) rfl)))))))
 simp only [List.mem_cons, List.not_mem_nil, or_false] at hx
 rcases hx with rfl | rfl | rfl
 · exact text_ok46 (by decide) T
 · exact text_ok46 (n := 4000) (by decide) J
 · exact text_ok46 (by decide) T
end Mi
namespace G
open PySem PySem.Spec PyProof.Rows L2
def lastF : List Str := ["joined", "fuel", "reach", "inside", "hops", "letters", "hours", "end", "keeps_clear", "fields"]
def done (fs : List (Str × V)) : Bool := fs.any fun p => lastF.any fun q => decide (q = p.1)
def Froz : HO → Prop
 | .tup _ => True
 | .ins _ _ fs => done fs = true
 | .own _ => True
 | .frz _ _ => True
 | _ => False
def NCf : HO → Prop
 | .own _ => False
 | .ext _ => False
 | .ins _ _ _ => False
 | .frz _ _ => False
 | _ => True
def NCo (H H' : Hp) (b : Addr) : HO → Prop
 | .own y => ∃ C fs, H' y = some (.ins C b fs)
 | .ins C dx _ => H dx = none ∨ ∃ fs', H b = some (.ins C dx fs')
 | .ext φ => ∀ (h : Heap) (ob : Obj), φ h → h.get? b = some ob → ∀ v, ob.data ≠ .cell v
 | .frz o u => NCf u ∨ ((∃ φ, u = .ext φ) ∧ ∀ v, o.data ≠ .cell v)
 | _ => True
structure Chg (M : List Addr) (H H' : Hp) : Prop where
 keep : ∀ b o, H b = some o → (b ∉ M ∨ Froz o) → H' b = some o
 dom : ∀ b, H' b = none → H b = none
 ins : ∀ a C dx fs, H a = some (.ins C dx fs) → ∃ fs', H' a = some (.ins C dx fs')
 new : ∀ b o, H' b = some o → H b = some o ∨ NCo H H' b o
theorem Chg.refl {M : List Addr} (H : Hp) : Chg M H H := ⟨fun _ _ h _ => h, fun _ h => h, fun _ _ _ fs h => ⟨fs, h⟩, fun _ _ h => .inl h⟩
theorem NCo.chg {H H1 H2 : Hp} {b : Addr} {o : HO} (n : NCo H H1 b o) (i : ∀ a C dx fs, H1 a = some (.ins C dx fs) → ∃ fs', H2 a = some (.ins C dx fs')) : NCo H H2 b o := by
 cases o with
 | own y => obtain ⟨C, fs, e⟩ := n; obtain ⟨fs', e'⟩ := i _ _ _ _ e; exact ⟨C, fs', e'⟩
 | _ => exact n
theorem new_trans {H H1 H2 : Hp} (ad : ∀ b, H1 b = none → H b = none) (ai : ∀ b o, H1 b = some o → H b = some o ∨ NCo H H1 b o) (bi : ∀ a C dx fs, H1 a = some (.ins C dx fs) → ∃ fs', H2 a = some (.ins C dx fs')) (bn : ∀ b o, H2 b = some o → H1 b = some o ∨ NCo H1 H2 b o) :
   ∀ b o, H2 b = some o → H b = some o ∨ NCo H H2 b o := fun b o h => by
 rcases bn b o h with e | n
 · exact (ai b o e).imp id fun n => n.chg bi
 · refine .inr ?_
   cases o with
   | ins C dx fs =>
     rcases n with n | ⟨fs', n⟩
     · exact .inl (ad _ n)
     · rcases ai _ _ n with e | m
       · exact .inr ⟨fs', e⟩
       · exact m
   | _ => exact n
theorem Chg.trans {M : List Addr} {H H1 H2 : Hp} (a : Chg M H H1) (b : Chg M H1 H2) : Chg M H H2 :=
 ⟨fun x o h d => b.keep x o (a.keep x o h d) d, fun x h => a.dom x (b.dom x h), fun x C dx fs h => by obtain ⟨fs', h'⟩ := a.ins x C dx fs h; exact b.ins x C dx fs' h', new_trans a.dom a.new b.ins b.new⟩
theorem Chg.mono {M N : List Addr} {H H' : Hp} (a : Chg M H H') (s : ∀ x ∈ M, x ∈ N) : Chg N H H' :=
 ⟨fun b o h d => a.keep b o h (d.imp (fun z y => z (s b y)) id), a.dom, a.ins, a.new⟩
theorem Chg.none {M : List Addr} {H H' : Hp} (a : Chg [] H H') : Chg M H H' := a.mono (fun x h => nomatch h)
theorem Chg.new' {M : List Addr} {H : Hp} {p : Addr} {o : HO} (np : H p = .none) (hn : NCo H (upd H p o) p o) : Chg M H (upd H p o) :=
 ⟨fun b u h _ => by rw [upd_ne (ne_of_none h np)]; exact h, fun b h => by
   by_cases e : b = p
   · subst e; exact np
   · rw [upd_ne e] at h; exact h, fun a C dx fs h => ⟨fs, by rw [upd_ne (ne_of_none h np)]; exact h⟩, fun b u h => by
   by_cases e : b = p
   · subst e; rw [upd_same] at h; cases h; exact .inr hn
   · rw [upd_ne e] at h; exact .inl h⟩
theorem Chg.lay {M : List Addr} {H : Hp} {p : Addr} {o : HO} (np : H p = .none) (hn : NCf o) : Chg M H (upd H p o) := Chg.new' np (by
 cases o <;> first | exact hn.elim | trivial)
theorem Chg.wr {H : Hp} {p : Addr} {o u : HO} (hp : H p = some u) (nf : ¬ Froz u) (hi : ∀ C dx fs, u = .ins C dx fs → ∃ fs', o = .ins C dx fs' := by intro _ _ _ z; cases z) (hn : NCo H (upd H p o) p o := by first | trivial | exact .inl trivial) : Chg [p] H (upd H p o) :=
 ⟨fun b w h d => by
   have e : b ≠ p := by
     intro e; subst e
     rw [hp] at h; cases h
     rcases d with d | d
     · exact d (List.mem_singleton.mpr rfl)
     · exact nf d
   rw [upd_ne e]; exact h, fun b h => by
   by_cases e : b = p
   · subst e; rw [upd_same] at h; cases h
   · rw [upd_ne e] at h; exact h, fun a C dx fs h => by
   by_cases e : a = p
   · subst e
     rw [hp] at h; cases h
     obtain ⟨fs', rfl⟩ := hi _ _ _ rfl
     exact ⟨fs', upd_same⟩
   · exact ⟨fs, by rw [upd_ne e]; exact h⟩, fun b w h => by
   by_cases e : b = p
   · subst e; rw [upd_same] at h; cases h; exact .inr hn
   · rw [upd_ne e] at h; exact .inl h⟩
theorem Chg.join {M N : List Addr} {H0 H H' : Hp} (a : Chg M H0 H) (b : Chg N H H') (fr : ∀ x ∈ N, x ∈ M ∨ H0 x = .none) : Chg M H0 H' :=
 ⟨fun x o h d => b.keep x o (a.keep x o h d) (by
   rcases d with d | d
   · refine .inl (fun z => ?_)
     rcases fr x z with y | y
     · exact d y
     · rw [y] at h; cases h
   · exact .inr d), fun x h => a.dom x (b.dom x h), fun x C dx fs h => by obtain ⟨fs', h'⟩ := a.ins x C dx fs h; exact b.ins x C dx fs' h', new_trans a.dom a.new b.ins b.new⟩
theorem Chg.free {M : List Addr} {H H' : Hp} (a : Chg M H H') {p : Addr} (np : H' p = .none) : H p = .none := a.dom p np
structure Ty (α : Type) where
 rep : PySem.W.Frag → Hp → List Addr → V → α → Prop
 keep : ∀ {K : PySem.W.Frag} {H H' : Hp} {F : List Addr} {v : V} {d : α}, rep K H F v d → (∀ b o, H b = some o → (b ∈ F ∨ Froz o) → H' b = some o) → rep K H' F v d
 dom : ∀ {K : PySem.W.Frag} {H : Hp} {F : List Addr} {v : V} {d : α}, rep K H F v d → ∀ b ∈ F, ∃ o, H b = some o ∧ ¬ Froz o
def Dj (F G : List Addr) : Prop := ∀ a ∈ F, a ∉ G
theorem Dj.symm {F G : List Addr} (d : Dj F G) : Dj G F := fun a h z => d a z h
theorem Dj.nil {F : List Addr} : Dj [] F := fun a h => nomatch h
theorem Dj.nilR {F : List Addr} : Dj F [] := fun a h z => nomatch z
section
variable {α β : Type} {τ : Ty α} {υ : Ty β} {K : PySem.W.Frag} {H H' : Hp} {F G M : List Addr} {v u : V} {d : α} {p : Addr}
theorem Ty.chg (r : τ.rep K H F v d) (c : Chg M H H') (dj : Dj F M) : τ.rep K H' F v d :=
 τ.keep r fun b o h z => c.keep b o h (z.imp (fun y => dj b y) id)
theorem Ty.ex (r : τ.rep K H F v d) (c : Chg [] H H') : τ.rep K H' F v d := Ty.chg r c Dj.nilR
theorem Ty.fz (r : τ.rep K H [] v d) (c : Chg M H H') : τ.rep K H' [] v d := Ty.chg r c Dj.nil
theorem Ty.nin (r : τ.rep K H F v d) (np : H p = none) : Dj F [p] := fun a h z => by
 rw [List.mem_singleton] at z; subst z
 obtain ⟨o, e, _⟩ := τ.dom r a h
 rw [np] at e; cases e
theorem Ty.fresh (r : τ.rep K H F v d) (np : ∀ a ∈ G, H a = none) : Dj F G := fun a h z => by
 obtain ⟨o, e, _⟩ := τ.dom r a h
 rw [np a z] at e; cases e
end
theorem one_fresh {H : Hp} {p : Addr} (np : H p = none) : ∀ a ∈ [p], H a = none := fun a h => by
 rw [List.mem_singleton] at h; subst h; exact np
def yInt : Ty Int := ⟨fun _ _ F v d => F = [] ∧ v = .int d, fun h _ => h, fun h b m => by rw [h.1] at m; cases m⟩
def yBool : Ty Bool := ⟨fun _ _ F v d => F = [] ∧ v = .bl d, fun h _ => h, fun h b m => by rw [h.1] at m; cases m⟩
def toS (l : List Nat) : Str := ⟨l.toArray⟩
def yStr : Ty (List Nat) := ⟨fun _ _ F v d => F = [] ∧ v = .str (toS d), fun h _ => h, fun h b m => by rw [h.1] at m; cases m⟩
theorem yInt_i {K : PySem.W.Frag} {H : Hp} {i : Int} : yInt.rep K H [] (.int i) i := ⟨rfl, rfl⟩
theorem yBool_i {K : PySem.W.Frag} {H : Hp} {i : Bool} : yBool.rep K H [] (.bl i) i := ⟨rfl, rfl⟩
theorem yStr_i {K : PySem.W.Frag} {H : Hp} {i : List Nat} : yStr.rep K H [] (.str (toS i)) i := ⟨rfl, rfl⟩
def yOpt {α : Type} (τ : Ty α) : Ty (Option α) where
 rep K H F v d := match d with
   | none => F = [] ∧ v = .non
   | some x => v ≠ .non ∧ τ.rep K H F v x
 keep {K H H' F v d} h k := by
   cases d with
   | none => exact h
   | some x => exact ⟨h.1, τ.keep h.2 k⟩
 dom {K H F v d} h b m := by
   cases d with
   | none => rw [h.1] at m; cases m
   | some x => exact τ.dom h.2 b m
def yLst {α : Type} (τ : Ty α) : Ty (List α) where
 rep K H F v xs := ∃ a vs, v = .ref a ∧ F = [a] ∧ H a = some (.lst vs) ∧ Paired (fun u x => τ.rep K H [] u x) vs xs
 keep {K H H' F v xs} h k := by
   obtain ⟨a, vs, e, f, g, r⟩ := h
   subst f
   exact ⟨a, vs, e, rfl, k a _ g (.inl (List.mem_singleton.mpr rfl)), Paired.mapP r fun u x q => τ.keep q fun b o hb z => k b o hb (z.elim (fun y => nomatch y) .inr)⟩
 dom {K H F v xs} h b m := by
   obtain ⟨a, vs, e, f, g, r⟩ := h
   subst f
   rw [List.mem_singleton] at m; subst m
   exact ⟨_, g, fun z => z⟩
theorem SqT.keeps {K : PySem.W.Frag} {H H' : Hp} {a : Addr} {vs : List V} (s : SqT K H a vs) (k : ∀ b o, H b = some o → Froz o → H' b = some o) : SqT K H' a vs := by
 rcases s with (s | ⟨o, s⟩) | s
 · exact .inl (.inl (k _ _ s trivial))
 · exact .inl (.inr ⟨o, k _ _ s trivial⟩)
 · exact .inr s
structure Tys (α : Type) where
 rep : PySem.W.Frag → Hp → List Addr → List V → α → Prop
 keep : ∀ {K : PySem.W.Frag} {H H' : Hp} {F : List Addr} {v : List V} {d : α}, rep K H F v d → (∀ b o, H b = some o → (b ∈ F ∨ Froz o) → H' b = some o) → rep K H' F v d
 dom : ∀ {K : PySem.W.Frag} {H : Hp} {F : List Addr} {v : List V} {d : α}, rep K H F v d → ∀ b ∈ F, ∃ o, H b = some o ∧ ¬ Froz o
def sOne {α : Type} (τ : Ty α) : Tys α where
 rep K H F vs x := ∃ v, vs = [v] ∧ τ.rep K H F v x
 keep h k := by obtain ⟨v, e, r⟩ := h; exact ⟨v, e, τ.keep r k⟩
 dom h b m := by obtain ⟨v, e, r⟩ := h; exact τ.dom r b m
def sCons {α β : Type} (τ : Ty α) (ts : Tys β) : Tys (α × β) where
 rep K H F vs x := ∃ v ws F1 F2, vs = v :: ws ∧ F = F1 ++ F2 ∧ τ.rep K H F1 v x.1 ∧ ts.rep K H F2 ws x.2
 keep {K H H' F v d} h k := by
   obtain ⟨v, ws, F1, F2, e, f, r, q⟩ := h
   subst f
   exact ⟨v, ws, F1, F2, e, rfl, τ.keep r fun b o hb z => k b o hb (z.imp (fun y => List.mem_append_left _ y) id), ts.keep q fun b o hb z => k b o hb (z.imp (fun y => List.mem_append_right _ y) id)⟩
 dom {K H F v d} h b m := by
   obtain ⟨v, ws, F1, F2, e, f, r, q⟩ := h
   subst f
   rcases List.mem_append.mp m with m | m
   · exact τ.dom r b m
   · exact ts.dom q b m
def yTup {α : Type} (ts : Tys α) : Ty α where
 rep K H F v d := ∃ a vs, v = .ref a ∧ SqT K H a vs ∧ ts.rep K H F vs d
 keep h k := by
   obtain ⟨a, vs, e, s, r⟩ := h
   exact ⟨a, vs, e, SqT.keeps s fun b o hb z => k b o hb (.inr z), ts.keep r k⟩
 dom h b m := by obtain ⟨a, vs, e, s, r⟩ := h; exact ts.dom r b m
def yTupL {α : Type} (τ : Ty α) : Ty (List α) where
 rep K H F v xs := ∃ a vs, v = .ref a ∧ F = [] ∧ SqT K H a vs ∧ Paired (fun u x => τ.rep K H [] u x) vs xs
 keep {K H H' F v xs} h k := by
   obtain ⟨a, vs, e, f, g, r⟩ := h
   exact ⟨a, vs, e, f, SqT.keeps g fun b o hb z => k b o hb (.inr z), Paired.mapP r fun u x q => τ.keep q fun b o hb z => k b o hb (z.elim (fun y => nomatch y) .inr)⟩
 dom {K H F v xs} h b m := by
   obtain ⟨a, vs, e, f, g, r⟩ := h
   rw [f] at m; cases m
def yScr : Ty (List Int) where
 rep K H F v xs := F = [] ∧ ∃ a, v = .ref a ∧ ∀ H', (∀ b o, H b = some o → Froz o → H' b = some o) → SqL K H' a (xs.map V.int)
 keep {K H H' F v xs} h k := by
   obtain ⟨f, a, e, g⟩ := h
   exact ⟨f, a, e, fun H2 k2 => g H2 fun b o hb z => k2 b o (k b o hb (.inr z)) z⟩
 dom {K H F v xs} h b m := by
   rw [h.1] at m; cases m
theorem yScr_of {K : PySem.W.Frag} {H : Hp} {a : Addr} {ns : List Int} (o : Only H) (s : SqL K H a (ns.map V.int)) : yScr.rep K H [] (.ref a) ns := by
 refine ⟨rfl, a, rfl, fun H' k => ?_⟩
 rcases s with (s | ⟨ob, s⟩) | s
 · rcases o a with z | ⟨_, _, z⟩
   · rw [z] at s; cases s
   · rw [z] at s; cases s
 · exact .inl (.inr ⟨ob, k _ _ s trivial⟩)
 · exact .inr s
end G
namespace G
open PySem PySem.Spec PyProof.Rows L2
theorem at_eq {α : Type} (xs : List α) (i : Int) : L2.atI xs i = Mi.at_ xs i := rfl
theorem line_big : Mi.big ≤ sizeLine := by rw [sizeLine_eq]; decide
section paired
variable {α β γ : Type} {R : α → β → Prop}
theorem pr_len {xs : List α} {ys : List β} (r : Paired R xs ys) : xs.length = ys.length := Paired.length r
theorem pr_get : ∀ {xs : List α} {ys : List β} {j : Nat} {y : β}, Paired R xs ys → ys[j]? = some y → ∃ x, xs[j]? = some x ∧ R x y
 | _, _, _, _, .nil, e => by simp at e
 | _, _, 0, _, .cons r _, e => by simp at e; subst e; exact ⟨_, rfl, r⟩
 | _, _, j + 1, y, .cons _ t, e => by
   obtain ⟨u, h1, h2⟩ := pr_get (j := j) (y := y) t (by simpa using e)
   exact ⟨u, by simpa using h1, h2⟩
theorem pr_set {x : α} {y : β} (r : R x y) : ∀ {xs : List α} {ys : List β} (i : Nat), Paired R xs ys → Paired R (xs.set i x) (ys.set i y)
 | _, _, _, .nil => .nil
 | _, _, 0, .cons _ t => .cons r t
 | _, _, i + 1, .cons q t => .cons q (pr_set r i t)
theorem pr_app : ∀ {xs zs : List α} {ys ws : List β}, Paired R xs ys → Paired R zs ws → Paired R (xs ++ zs) (ys ++ ws)
 | _, _, _, _, .nil, s => s
 | _, _, _, _, .cons r t, s => .cons r (pr_app t s)
theorem pr_take : ∀ {xs : List α} {ys : List β} (n : Nat), Paired R xs ys → Paired R (xs.take n) (ys.take n)
 | _, _, 0, _ => .nil
 | _, _, _ + 1, .nil => .nil
 | _, _, n + 1, .cons r t => .cons r (pr_take n t)
theorem pr_drop : ∀ {xs : List α} {ys : List β} (n : Nat), Paired R xs ys → Paired R (xs.drop n) (ys.drop n)
 | _, _, 0, r => r
 | _, _, _ + 1, .nil => .nil
 | _, _, n + 1, .cons _ t => pr_drop n t
theorem pr_at {xs : List α} {ys : List β} {i : Int} {y : β} (r : Paired R xs ys) (h : Mi.at_ ys i = some y) : ∃ x, L2.atI xs i = some x ∧ R x y := by
 rw [at_eq]
 unfold Mi.at_ at h ⊢
 rw [pr_len r]
 obtain ⟨j, e, h⟩ := Mi.bnd h
 obtain ⟨x, e2, q⟩ := pr_get r h
 exact ⟨x, by rw [e]; exact e2, q⟩
theorem pr_map (f : β → α) (h : ∀ b, R (f b) b) : ∀ ys : List β, Paired R (ys.map f) ys
 | [] => .nil
 | y :: ys => .cons (h y) (pr_map f h ys)
end paired
theorem ints_mk {K : PySem.W.Frag} {H : Hp} (ns : List Int) : Paired (fun u x => yInt.rep K H [] u x) (ns.map V.int) ns := pr_map V.int (fun _ => ⟨rfl, rfl⟩) ns
section vals
variable {K : PySem.W.Frag} {σ : L2.St} {H : Hp} {F : List Addr} {ta tb te : TE} {v u x y : V} {i j : Int} {t : TT} {b c : Bool} {α β : Type} {τ : Ty α}
theorem val_I0 {g : Int → Int → V} (ha : Val ta σ H (.int i)) (hb : Val tb σ H (.int j)) : Val (tOp (rI0 g) ta tb) σ H (g i j) := val_op ha hb fun Q q => ⟨i, j, rfl, rfl, q⟩
theorem val_I {C : Int → Int → Prop} {g : Int → Int → V} (ha : Val ta σ H (.int i)) (hb : Val tb σ H (.int j)) (hc : C i j) : Val (tOp (rI C g) ta tb) σ H (g i j) := val_op ha hb fun Q q => ⟨i, j, rfl, rfl, hc, q⟩
theorem val_U {g : Int → V} (ha : Val ta σ H (.int i)) : Val (tUn (rU g) ta) σ H (g i) := fun Q q => ha _ ⟨i, rfl, q⟩
theorem dI {i j : Int} : decide (V.int i = V.int j) = decide (i = j) := by
 by_cases e : i = j
 · subst e; simp
 · rw [decide_eq_false e, decide_eq_false (fun q => e (V.int.inj q))]
theorem dB {i j : Bool} : decide (V.bl i = V.bl j) = decide (i = j) := by
 by_cases e : i = j
 · subst e; simp
 · rw [decide_eq_false e, decide_eq_false (fun q => e (V.bl.inj q))]
theorem val_eqI (ha : Val ta σ H (.int i)) (hb : Val tb σ H (.int j)) : Val (tOp rEq ta tb) σ H (.bl (decide (i = j))) := val_op ha hb fun Q q => ⟨rfl, by rw [dI]; exact q⟩
theorem val_neI (ha : Val ta σ H (.int i)) (hb : Val tb σ H (.int j)) : Val (tOp rNe ta tb) σ H (.bl (!decide (i = j))) := val_op ha hb fun Q q => ⟨rfl, by rw [dI]; exact q⟩
theorem val_eqB (ha : Val ta σ H (.bl b)) (hb : Val tb σ H (.bl c)) : Val (tOp rEq ta tb) σ H (.bl (decide (b = c))) := val_op ha hb fun Q q => ⟨rfl, by rw [dB]; exact q⟩
theorem val_is {w : V} (h : Val te σ H v) (e : v = w) : Val te σ H w := e ▸ h
theorem mulC {i j r : Int} (h : Mi.mul i j = some r) : CMul i j ∧ i * j = r := by
 unfold Mi.mul at h
 split at h
 · exact ⟨by assumption, Option.some.inj h⟩
 · cases h
theorem modC {i j r : Int} (h : Mi.mod i j = some r) : 0 < j ∧ i % j = r := by
 unfold Mi.mod at h
 split at h
 · exact ⟨by assumption, Option.some.inj h⟩
 · cases h
theorem divC {i j r : Int} (h : Mi.fdiv i j = some r) : CDivW i j ∧ i / j = r := by
 unfold Mi.fdiv at h
 split at h
 · rename_i hc
   refine ⟨wide_div (b := 200) hc.1 ?_ (by decide) (by decide), Option.some.inj h⟩
   omega
 · cases h
theorem val_mul {r : Int} (ha : Val ta σ H (.int i)) (hb : Val tb σ H (.int j)) (h : Mi.mul i j = some r) : Val (tOp (rI CMul fun i j => .int (i * j)) ta tb) σ H (.int r) := val_is (val_I ha hb (mulC h).1) (by rw [(mulC h).2])
theorem val_mod {r : Int} (ha : Val ta σ H (.int i)) (hb : Val tb σ H (.int j)) (h : Mi.mod i j = some r) : Val (tOp (rI (fun _ j => 0 < j) fun i j => .int (i % j)) ta tb) σ H (.int r) := val_is (val_I ha hb (modC h).1) (by rw [(modC h).2])
theorem val_fdiv {r : Int} (ha : Val ta σ H (.int i)) (hb : Val tb σ H (.int j)) (h : Mi.fdiv i j = some r) : Val (tOp (rI CDivW fun i j => .int (i / j)) ta tb) σ H (.int r) := val_is (val_I ha hb (divC h).1) (by rw [(divC h).2])
theorem ans_t (h : Val te σ H (.bl b)) : Ans (tTest te) σ H b := fun Q q => h _ ⟨b, rfl, q⟩
def rInt1 : List V → Hp → VK → Prop := fun xs H Q => (∃ i, xs = [.int i] ∧ Q (.int i) H) ∨ ∃ k, xs = [.bl k] ∧ Q (.int (if k then 1 else 0)) H
theorem cl_int {X : Cx} : CallR X (.type "int") rInt1 := call_int1
theorem val_int (ha : Val ta σ H (.int i)) : Val (tCB rInt1 (tCons ta tNil)) σ H (.int i) := fun Q q => ha _ (.inl ⟨i, rfl, q⟩)
def rMin2 : List V → Hp → VK → Prop := fun xs H Q => ∃ i j, xs = [.int i, .int j] ∧ Q (.int (if j < i then j else i)) H
theorem cl_min2 {X : Cx} (hc : X.calm = true) : CallR X (.builtin "min") rMin2 := call_min2 hc
theorem val_min2 (ha : Val ta σ H (.int i)) (hb : Val tb σ H (.int j)) : Val (tCB rMin2 (tCons ta (tCons tb tNil))) σ H (.int (min i j)) := fun Q q => ha _ (hb _ ⟨i, j, rfl, by
 have e : (if j < i then j else i) = min i j := by split <;> omega
 rw [e]; exact q⟩)
def rLenQ (K : PySem.W.Frag) : List V → Hp → VK → Prop := fun xs H Q => ∃ p ys, xs = [.ref p] ∧ (SqL K H p ys ∨ SqT K H p ys) ∧ Q (.int ys.length) H
theorem cl_len {X : Cx} {K : PySem.W.Frag} (e : X.K = K := by rfl) : CallR X (.builtin "len") (rLenQ K) := by subst e; exact call_len_seq
theorem lst_sq {xs : List α} (r : (yLst τ).rep K H F v xs) : ∃ a vs, v = .ref a ∧ SqL K H a vs ∧ Paired (fun u x => τ.rep K H [] u x) vs xs := by
 obtain ⟨a, vs, e, f, g, q⟩ := r
 exact ⟨a, vs, e, .inl (.inl g), q⟩
theorem tupl_sq {xs : List α} (r : (yTupL τ).rep K H F v xs) : ∃ a vs, v = .ref a ∧ SqT K H a vs ∧ Paired (fun u x => τ.rep K H [] u x) vs xs := by
 obtain ⟨a, vs, e, f, g, q⟩ := r
 exact ⟨a, vs, e, g, q⟩
theorem scr_sq {xs : List Int} (r : yScr.rep K H F v xs) : ∃ a vs, v = .ref a ∧ SqL K H a vs ∧ Paired (fun u x => yInt.rep K H [] u x) vs xs := by
 obtain ⟨f, a, e, g⟩ := r
 exact ⟨a, _, e, g H fun _ _ h _ => h, ints_mk xs⟩
theorem val_lenL {xs : List α} (r : (yLst τ).rep K H F v xs) (ha : Val ta σ H v) : Val (tCB (rLenQ K) (tCons ta tNil)) σ H (.int (xs.length : Int)) := by
 obtain ⟨a, vs, e, s, q⟩ := lst_sq r
 subst e
 exact fun Q k => ha _ ⟨a, vs, rfl, .inl s, by rw [pr_len q]; exact k⟩
theorem val_lenT {xs : List α} (r : (yTupL τ).rep K H F v xs) (ha : Val ta σ H v) : Val (tCB (rLenQ K) (tCons ta tNil)) σ H (.int (xs.length : Int)) := by
 obtain ⟨a, vs, e, s, q⟩ := tupl_sq r
 subst e
 exact fun Q k => ha _ ⟨a, vs, rfl, .inr s, by rw [pr_len q]; exact k⟩
theorem val_lenS {xs : List Int} (r : yScr.rep K H F v xs) (ha : Val ta σ H v) : Val (tCB (rLenQ K) (tCons ta tNil)) σ H (.int (xs.length : Int)) := by
 obtain ⟨a, vs, e, s, q⟩ := scr_sq r
 subst e
 exact fun Q k => ha _ ⟨a, vs, rfl, .inl s, by rw [pr_len q]; exact k⟩
theorem ix_l {X : Cx} {K : PySem.W.Frag} (e : X.K = K := by rfl) : IxR X (rIxL K) := by subst e; exact ix_list
theorem ix_t {X : Cx} {K : PySem.W.Frag} (e : X.K = K := by rfl) : IxR X (rIxT K) := by subst e; exact ix_tup
theorem itm_L {xs : List α} {x : α} (r : (yLst τ).rep K H F v xs) (h : Mi.at_ xs i = some x) :
   ∃ u, τ.rep K H [] u x ∧ ∀ {σ : L2.St} {ta tb : TE}, Val ta σ H v → Val tb σ H (.int i) → Val (tOp (rIxL K) ta tb) σ H u := by
 obtain ⟨a, vs, e, s, q⟩ := lst_sq r
 subst e
 obtain ⟨u, e, ru⟩ := pr_at q h
 exact ⟨u, ru, fun ha hb => val_op ha hb fun Q k => ⟨a, vs, i, u, rfl, rfl, s, e, k⟩⟩
theorem itm_T {xs : List α} {x : α} (r : (yTupL τ).rep K H F v xs) (h : Mi.at_ xs i = some x) :
   ∃ u, τ.rep K H [] u x ∧ ∀ {σ : L2.St} {ta tb : TE}, Val ta σ H v → Val tb σ H (.int i) → Val (tOp (rIxT K) ta tb) σ H u := by
 obtain ⟨a, vs, e, s, q⟩ := tupl_sq r
 subst e
 obtain ⟨u, e, ru⟩ := pr_at q h
 exact ⟨u, ru, fun ha hb => val_op ha hb fun Q k => ⟨a, vs, i, u, rfl, rfl, s, e, k⟩⟩
theorem itm_S {xs : List Int} {x : Int} (r : yScr.rep K H F v xs) (h : Mi.at_ xs i = some x) {σ : L2.St} {ta tb : TE} (ha : Val ta σ H v) (hb : Val tb σ H (.int i)) : Val (tOp (rIxL K) ta tb) σ H (.int x) := by
 obtain ⟨a, vs, e, s, q⟩ := scr_sq r
 subst e
 obtain ⟨u, e, ru⟩ := pr_at q h
 obtain ⟨_, rfl⟩ := ru
 exact val_op ha hb fun Q k => ⟨a, vs, i, _, rfl, rfl, s, e, k⟩
theorem itm_LI {xs : List Int} {x : Int} (r : (yLst yInt).rep K H F v xs) (h : Mi.at_ xs i = some x) {σ : L2.St} {ta tb : TE} (ha : Val ta σ H v) (hb : Val tb σ H (.int i)) : Val (tOp (rIxL K) ta tb) σ H (.int x) := by
 obtain ⟨u, ⟨_, rfl⟩, k⟩ := itm_L r h
 exact k ha hb
theorem cl_isi {X : Cx} {K : PySem.W.Frag} (e : X.K = K := by rfl) : CallR X (.builtin "isinstance") (rIsi K) := by subst e; exact call_isi
theorem val_isi {n m : String} {b : Bool} (ha : Val ta σ H v) (ht : TyX K H v (.type n)) (h : kitB n m = some b) : Val (tCB (rIsi K) (tCons ta (tCons (tC (.ty m)) tNil))) σ H (.bl b) := fun Q q =>
 ha _ ⟨v, .ty m, .type n, .type m, b, rfl, .ty m, ht, kit_ty h, q⟩
theorem ty_int : TyX K H (.int i) (.type "int") := .base (.int i)
theorem ty_bl : TyX K H (.bl b) (.type "bool") := .base (.bl b)
theorem ty_str {s : Str} : TyX K H (.str s) (.type "str") := .base (.str s)
theorem ty_non : TyX K H .non (.type "NoneType") := .base .non
theorem ty_lst {xs : List α} (r : (yLst τ).rep K H F v xs) : TyX K H v (.type "list") := by
 obtain ⟨a, vs, rfl, f, g, q⟩ := r
 exact .base (.lst g)
theorem ty_sqt {a : Addr} {vs : List V} (s : SqT K H a vs) : TyX K H (.ref a) (.type "tuple") := by
 rcases s with (s | ⟨o, s⟩) | ⟨o, its, n, e, c, _⟩
 · exact .base (.tup s)
 · exact .fTuple s
 · exact .kTuple e c
theorem ty_tupl {xs : List α} (r : (yTupL τ).rep K H F v xs) : TyX K H v (.type "tuple") := by
 obtain ⟨a, vs, rfl, s, q⟩ := tupl_sq r
 exact ty_sqt s
theorem ty_tup {ts : Tys α} {d : α} (r : (yTup ts).rep K H F v d) : TyX K H v (.type "tuple") := by
 obtain ⟨a, vs, rfl, s, q⟩ := r
 exact ty_sqt s
end vals
section cps
variable {K : PySem.W.Frag} {σ σ' : L2.St} {H : Hp} {F : List Addr} {ta tb te : TE} {v u x y : V} {i j : Int} {t : TT} {b c : Bool} {α β : Type} {τ : Ty α} {Q : VK} {D : Ends} {t1 t2 : TS}
theorem c_val (h : Val te σ H v) (k : Q v H) : te σ H Q := h Q k
theorem c_ans {Q : Bool → Hp → Prop} (h : Ans t σ H b) (k : Q b H) : t σ H Q := h Q k
theorem c_if {A B : Prop} (h1 : b = true → A) (h2 : b = false → B) : if b = true then A else B := by
 cases b with
 | true => exact iteT (h1 rfl)
 | false => exact iteF (h2 rfl)
theorem s_if (h : Ans t σ H b) (h1 : b = true → t1 D σ H) (h2 : b = false → t2 D σ H) : tIfS t t1 t2 D σ H := h _ (c_if h1 h2)
theorem s_join {R : L2.St → Hp → Prop} (w : ∀ nx : L2.St → Hp → Prop, (∀ σ' H', R σ' H' → nx σ' H') → t1 { D with nx := nx } σ H) (k : ∀ σ' H', R σ' H' → t2 D σ' H') : tSeq t1 t2 D σ H := w _ k
theorem g_name {i : Nat} {Q : L2.St → Hp → Prop} (e : σ.set i (some v) = σ') (k : Q σ' H) : gName i v σ H Q := by show Q (σ.set i (some v)) H; rw [e]; exact k
theorem sz {n : Nat} (h : n ≤ Mi.big) : n ≤ sizeLine := Nat.le_trans h line_big
def VaA (t : TA) (σ : L2.St) (H : Hp) (vs : List V) : Prop := ∀ Q : List V → Hp → Prop, Q vs H → t σ H Q
theorem va_nil : VaA tNil σ H [] := fun Q q => q
theorem va_cons {tr : TA} {vs : List V} (h : Val ta σ H v) (r : VaA tr σ H vs) : VaA (tCons ta tr) σ H (v :: vs) := fun Q q => h _ (r _ q)
theorem m_app {xs ys : List α} {d : α} (r : (yLst τ).rep K H F v xs) (ru : τ.rep K H [] u d) (hm : Mi.app xs d = some ys) (k : ∀ H', Chg F H H' → (yLst τ).rep K H' F v ys → Q .non H') : rAppend v [u] H Q := by
 obtain ⟨p, vs, rfl, rfl, g, q⟩ := r
 unfold Mi.app at hm
 split at hm
 · rename_i hz
   cases hm
   have c : Chg [p] H (upd H p (.lst (vs ++ [u]))) := Chg.wr g (fun z => z)
   refine ⟨p, vs, u, rfl, rfl, g, Nat.lt_of_lt_of_le (by rw [pr_len q]; exact hz) line_big, k _ c ⟨p, _, rfl, rfl, upd_same, ?_⟩⟩
   exact pr_app (Paired.mapP q fun _ _ z => Ty.fz z c) (.cons (Ty.fz ru c) .nil)
 · cases hm
theorem m_set {xs ys : List α} {d : α} {Q : Hp → Prop} (r : (yLst τ).rep K H F v xs) (ru : τ.rep K H [] u d) (hm : Mi.setAt xs i d = some ys) (k : ∀ H', Chg F H H' → (yLst τ).rep K H' F v ys → Q H') : rSetL v (.int i) u H Q := by
 obtain ⟨p, vs, rfl, rfl, g, q⟩ := r
 unfold Mi.setAt at hm
 obtain ⟨j, e, hm⟩ := Mi.bnd hm
 cases hm
 have c : Chg [p] H (upd H p (.lst (vs.set j u))) := Chg.wr g (fun z => z)
 refine ⟨p, vs, i, j, rfl, rfl, g, by rw [pr_len q]; exact e, k _ c ⟨p, _, rfl, rfl, upd_same, ?_⟩⟩
 exact pr_set (Ty.fz ru c) j (Paired.mapP q fun _ _ z => Ty.fz z c)
end cps
end G
namespace G
open PySem PySem.Spec PyProof.Rows L2
structure Bi (mg : Str → Option Value) : Prop where
 len : mg "len" = none
 range : mg "range" = none
 int : mg "int" = none
 bool : mg "bool" = none
 isinstance : mg "isinstance" = none
 max : mg "max" = none
 min : mg "min" = none
 list : mg "list" = none
 tuple : mg "tuple" = none
 sorted : mg "sorted" = none
 set : mg "set" = none
 enumerate : mg "enumerate" = none
 zip : mg "zip" = none
 reversed : mg "reversed" = none
 sum : mg "sum" = none
 any : mg "any" = none
 all : mg "all" = none
 str : mg "str" = none
structure Dfn (K : PySem.W.Frag) (mg : Str → Option Value) (x : Str) (st : Stmt) : Prop where
 ex : ∃ f fd, Fun K x x st f fd ∧ mg x = some (.ref f)
structure Cal (P : Program) (w : World) (K : PySem.W.Frag) (mg : Str → Option Value) (x : Str) (ps : List Str) (k : Nat) (sp : Sp) : Prop where
 ex : ∃ f fd, mg x = some (.ref f) ∧ PySem.W.keepIn K (.ref f) = true ∧ (∀ (s : Shared) (us : List Value), us.length = ps.length → BindsTo s fd ⟨us, []⟩ (ps.zip us)) ∧ ∀ base : Heap, FnOk P w K mg base CX0 k f fd ps sp
theorem pe_cc {X : Cx} {x : Str} {ps : List Str} {j k : Nat} {sp : Sp} {p pos : Pos} {e : Expr} {es : List Expr} {t : TA} (C : Cal X.prog X.w X.K X.mg x ps j sp) (hr : Room k X.A) (ha : PA X (e :: es) t) (hj : j ≤ k := by decide) (hg : Gl X x := by rfl)
   (hd : (x == ("__debug__" : Str)) = false := by decide) (he : starEach (e :: es) X.env = (false, eval e X.env) :: starEach es X.env := by rfl)
   (hpl : (backTo pos (starEach es X.env)).any (·.1) = false := by rfl) :
   PE X (.Call (.Name x p) (e :: es) [] pos) (tCall sp [] E0 t) := by
 obtain ⟨f, fd, g, kp, b, F⟩ := C.ex
 exact pe_call (F X.base) (hr.mono hj) hg g kp (fun s us _ hl => by rw [List.append_nil] at hl ⊢; exact b s us hl) .nil pass0 ha hd he hpl
theorem bindsF {K : PySem.W.Frag} {x qual : Str} {st : Stmt} {f : Addr} {fd : FuncData} {ps : List Str} (F : Fun K x qual st f fd)
   (h : ∀ (kV doc pm : Value) (an : Option Addr) (cdv ct : Value) (us : List Value), us.length = ps.length → bindArgs (PySem.W.fnOf x qual (defArgs st) (defBody st) (defScope st) .none kV doc pm an cdv ct) ⟨us, []⟩ = pure (ps.zip us)) (s : Shared) (us : List Value) (hl : us.length = ps.length) : BindsTo s fd ⟨us, []⟩ (ps.zip us) := by
 obtain ⟨oc, od, kV, doc, pm, an, cdv, ct, osl, rfl, lk, hcd⟩ := F.ex
 exact .of_eq (h kV doc pm an cdv ct us hl)
end G
namespace G
open PySem PySem.Spec PyProof.Rows L2
section
variable {K : PySem.W.Frag} {σ σ' : L2.St} {H : Hp} {F : List Addr} {ta tb te : TE} {v u x y : V} {i j : Int} {t tu : TT} {b c a : Bool} {α β : Type} {τ : Ty α} {Q : VK} {D : Ends} {t1 t2 : TS}
theorem val_add (ha : Val ta σ H (.int i)) (hb : Val tb σ H (.int j)) : Val (tOp (rI0 fun i j => .int (i + j)) ta tb) σ H (.int (i + j)) := val_I0 ha hb
theorem val_sub (ha : Val ta σ H (.int i)) (hb : Val tb σ H (.int j)) : Val (tOp (rI0 fun i j => .int (i - j)) ta tb) σ H (.int (i - j)) := val_I0 ha hb
theorem val_lt (ha : Val ta σ H (.int i)) (hb : Val tb σ H (.int j)) : Val (tOp (rI0 fun i j => .bl (decide (i < j))) ta tb) σ H (.bl (decide (i < j))) := val_I0 (g := fun i j => .bl (decide (i < j))) ha hb
theorem val_le (ha : Val ta σ H (.int i)) (hb : Val tb σ H (.int j)) : Val (tOp (rI0 fun i j => .bl (decide (i ≤ j))) ta tb) σ H (.bl (decide (i ≤ j))) := val_I0 (g := fun i j => .bl (decide (i ≤ j))) ha hb
theorem val_gt (ha : Val ta σ H (.int i)) (hb : Val tb σ H (.int j)) : Val (tOp (rI0 fun i j => .bl (decide (j < i))) ta tb) σ H (.bl (decide (j < i))) := val_I0 (g := fun i j => .bl (decide (j < i))) ha hb
theorem val_ge (ha : Val ta σ H (.int i)) (hb : Val tb σ H (.int j)) : Val (tOp (rI0 fun i j => .bl (decide (j ≤ i))) ta tb) σ H (.bl (decide (j ≤ i))) := val_I0 (g := fun i j => .bl (decide (j ≤ i))) ha hb
theorem val_neg (ha : Val ta σ H (.int i)) : Val (tUn (rU fun i => .int (-i)) ta) σ H (.int (-i)) := val_U (g := fun i => .int (-i)) ha
theorem val_mulL (ha : Val ta σ H (.int i)) (hb : Val tb σ H (.int j)) (h : -(2 ^ 64) < i ∧ i < 2 ^ 64) : Val (tOp (rI CMul fun i j => .int (i * j)) ta tb) σ H (.int (i * j)) := val_I (g := fun i j => .int (i * j)) ha hb (.inl h)
theorem val_modc (ha : Val ta σ H (.int i)) (hb : Val tb σ H (.int j)) (h : 0 < j) : Val (tOp (rI (fun _ j => 0 < j) fun i j => .int (i % j)) ta tb) σ H (.int (i % j)) := val_I (g := fun i j => .int (i % j)) ha hb h
theorem val_divc (ha : Val ta σ H (.int i)) (hb : Val tb σ H (.int j)) (h : CDiv i j) : Val (tOp (rI CDiv fun i j => .int (i / j)) ta tb) σ H (.int (i / j)) := val_I (g := fun i j => .int (i / j)) ha hb h
theorem val_pow {n : Nat} (ha : Val ta σ H (.int i)) (hb : Val tb σ H (.int j)) (e : j = (n : Int)) (hn : n ≤ 1000000) (h : i.natAbs < 2 ^ 64) : Val (tOp (rI CPow fun i j => .int (i ^ j.toNat)) ta tb) σ H (.int (i ^ n)) := by
 subst e
 exact val_I (g := fun i j => .int (i ^ j.toNat)) ha hb ⟨by omega, by omega, h⟩
theorem ans_B (h : Val te σ H (.bl b)) : Ans (tB te) σ H b := ans_val h
theorem ans_N (h : Ans t σ H b) : Ans (tNot t) σ H (!b) := ans_not h
theorem ans_andB (h1 : Ans t σ H a) (h2 : a = true → Ans tu σ H b) : Ans (tAnd t tu) σ H (a && b) := by
 cases a with
 | true => exact ans_and h1 (h2 rfl)
 | false => exact ans_and0 h1
theorem ans_orB (h1 : Ans t σ H a) (h2 : a = false → Ans tu σ H b) : Ans (tOr t tu) σ H (a || b) := by
 cases a with
 | true => exact ans_or1 h1
 | false => exact ans_or h1 (h2 rfl)
theorem ans_andO {m : Option Bool} (h1 : Ans t σ H a) (hc : (if a = true then m else some false) = some c) (h2 : m = some c → Ans tu σ H c) : Ans (tAnd t tu) σ H c := by
 cases a with
 | true => exact ans_and h1 (h2 hc)
 | false => cases hc; exact ans_and0 h1
theorem ans_orO {m : Option Bool} (h1 : Ans t σ H a) (hc : (if a = true then some true else m) = some c) (h2 : m = some c → Ans tu σ H c) : Ans (tOr t tu) σ H c := by
 cases a with
 | true => cases hc; exact ans_or1 h1
 | false => exact ans_or h1 (h2 hc)
theorem val_notV (h : Val ta σ H (.bl a)) : Val (tNotV ta) σ H (.bl (!a)) := fun Q q => h _ ⟨a, rfl, q⟩
theorem val_andV (h1 : Val ta σ H (.bl a)) (h2 : a = true → Val tb σ H (.bl b)) : Val (tAndV ta tb) σ H (.bl (a && b)) := fun Q q => h1 _ ⟨a, rfl, by
 cases a with
 | true => exact iteT (h2 rfl Q q)
 | false => exact iteF q⟩
theorem w_op {r : R2} (h : ta σ H fun x H1 => tb σ H1 fun y H2 => r x y H2 Q) : tOp r ta tb σ H Q := h
theorem w_cb {r : List V → Hp → VK → Prop} {ts : TA} (h : ts σ H fun vs H1 => r vs H1 Q) : tCB r ts σ H Q := h
theorem w_call {sp : Sp} {dvs : List V} {E : XK} {ts : TA} (h : ts σ H fun vs H1 => sp (vs ++ dvs) H1 Q E) : tCall sp dvs E ts σ H Q := h
theorem w_cons {tr : TA} {Q : List V → Hp → Prop} (h : ta σ H fun x H1 => tr σ H1 fun xs H2 => Q (x :: xs) H2) : tCons ta tr σ H Q := h
theorem w_nil {Q : List V → Hp → Prop} (h : Q [] H) : tNil σ H Q := h
theorem w_args {ts : TA} {vs : List V} {Q : List V → Hp → Prop} (h : VaA ts σ H vs) (k : Q vs H) : ts σ H Q := h Q k
def LstG (xs : List V) (H : Hp) (Q : VK) : Prop := xs.length ≤ sizeLine ∧ ∀ p, H p = none → Q (.ref p) (upd H p (.lst xs))
def TupG (xs : List V) (H : Hp) (Q : VK) : Prop := xs.length ≤ sizeLine ∧ ∀ p, H p = none → Q (.ref p) (upd H p (.tup xs))
theorem w_lst {ts : TA} (h : ts σ H fun xs H1 => LstG xs H1 Q) : L2.tLst ts σ H Q := h
theorem w_tup {ts : TA} (h : ts σ H fun xs H1 => TupG xs H1 Q) : L2.tTup ts σ H Q := h
theorem w_test {Q : Bool → Hp → Prop} (h : te σ H fun x H' => ∃ k, x = .bl k ∧ Q k H') : tTest te σ H Q := h
theorem w_B {Q : Bool → Hp → Prop} (h : te σ H fun x H' => ∃ k, x = .bl k ∧ Q k H') : tB te σ H Q := h
theorem w_not {Q : Bool → Hp → Prop} (h : t σ H fun c H1 => Q (!c) H1) : tNot t σ H Q := h
theorem w_and {Q : Bool → Hp → Prop} (h : t σ H fun c H1 => if c = true then tu σ H1 Q else Q false H1) : tAnd t tu σ H Q := h
theorem w_or {Q : Bool → Hp → Prop} (h : t σ H fun c H1 => if c = true then Q true H1 else tu σ H1 Q) : tOr t tu σ H Q := h
theorem w_andV (h : ta σ H fun x H1 => ∃ c, x = .bl c ∧ if c = true then tb σ H1 Q else Q (.bl false) H1) : tAndV ta tb σ H Q := h
theorem w_I0 {g : Int → Int → V} (k : Q (g i j) H) : rI0 g (.int i) (.int j) H Q := ⟨i, j, rfl, rfl, k⟩
theorem w_I {C : Int → Int → Prop} {g : Int → Int → V} (hc : C i j) (k : Q (g i j) H) : rI C g (.int i) (.int j) H Q := ⟨i, j, rfl, rfl, hc, k⟩
theorem w_eqI (k : Q (.bl (decide (i = j))) H) : rEq (.int i) (.int j) H Q := ⟨rfl, by rw [dI]; exact k⟩
theorem w_ixL {xs : List α} {x : α} (r : (yLst τ).rep K H F v xs) (h : Mi.at_ xs i = some x) (k : ∀ u, τ.rep K H [] u x → Q u H) : rIxL K v (.int i) H Q := by
 obtain ⟨a, vs, e, s, q⟩ := lst_sq r
 subst e
 obtain ⟨u, e, ru⟩ := pr_at q h
 exact ⟨a, vs, i, u, rfl, rfl, s, e, k u ru⟩
theorem e_lst {vs : List V} {xs : List α} (z : vs.length ≤ Mi.big) (r : Paired (fun u x => τ.rep K H [] u x) vs xs) (k : ∀ p H', H p = none → Chg [] H H' → (yLst τ).rep K H' [p] (.ref p) xs → Q (.ref p) H') :
 LstG vs H Q := ⟨sz z, fun p np => k p _ np (Chg.lay np trivial)
   ⟨p, vs, rfl, rfl, upd_same, Paired.mapP r fun u x q => Ty.ex q (Chg.lay np trivial)⟩⟩
theorem e_tup {ty : Tys α} {vs : List V} {d : α} {F : List Addr} (z : vs.length ≤ Mi.big) (r : ty.rep K H F vs d) (k : ∀ p H', H p = none → Chg [] H H' → (yTup ty).rep K H' F (.ref p) d → Q (.ref p) H') :
 TupG vs H Q := ⟨sz z, fun p np => k p _ np (Chg.lay np trivial)
   ⟨p, vs, rfl, .inl (.inl upd_same), ty.keep r fun b o e _ => by rw [upd_ne (ne_of_none e np)]; exact e⟩⟩
theorem w_ifS (h : t σ H fun b H1 => if b = true then t1 D σ H1 else t2 D σ H1) : tIfS t t1 t2 D σ H := h
theorem w_gsub {to ti : TE} {ts : TSet} {Q : L2.St → Hp → Prop} (h : to σ H fun o H1 => ti σ H1 fun i H2 => ts o i v H2 fun H3 => Q σ H3) : gSub to ti ts v σ H Q := h
theorem w_bm {T : String} {r : V → List V → Hp → VK → Prop} {to : TE} {ts : TA} (h : to σ H fun x H1 => tyV K T x H1 ∧ ts σ H1 fun xs H2 => r x xs H2 Q) : tBM K T r to ts σ H Q := h
theorem tyv_lst {xs : List α} (r : (yLst τ).rep K H F v xs) : tyV K "list" v H := by
 obtain ⟨a, vs, rfl, s, q⟩ := lst_sq r
 exact .inl ⟨rfl, _, s⟩
theorem j_tt {R : Hp → Prop} {Q : Bool → Hp → Prop} (c : Bool) (w : ∀ Q' : Bool → Hp → Prop, (∀ H', R H' → Q' c H') → t σ H Q') (k : ∀ H', R H' → Q c H') : t σ H Q := w Q k
theorem j_te {R : Hp → Prop} (x : V) (w : ∀ Q' : VK, (∀ H', R H' → Q' x H') → te σ H Q') (k : ∀ H', R H' → Q x H') : te σ H Q := w Q k
theorem q_asg {g : TG} (h : te σ H fun x H1 => g x σ H1 (t2 D)) : tSeq (tAsg te g) t2 D σ H := h
theorem q_setE {k : Nat} {w : V} (h : Val te σ H v) (ev : v = w) (e : σ.set k (some w) = σ') (q : t2 D σ' H) : tSeq (tAsg te (gName k)) t2 D σ H := by
 subst ev
 exact h _ (by show t2 D (σ.set k (some v)) H; rw [e]; exact q)
theorem q_drop (h : te σ H fun _ H1 => t2 D σ H1) : tSeq (tDrop te) t2 D σ H := h
theorem q_ret (h : te σ H D.rt) : tSeq (tRet te) t2 D σ H := h
theorem q_if {t3 : TS} (h : Ans t σ H b) (h1 : b = true → t1 { D with nx := t2 D } σ H) (h2 : b = false → t3 { D with nx := t2 D } σ H) : tSeq (tIfS t t1 t3) t2 D σ H := h _ (c_if h1 h2)
theorem q_ifS {t3 : TS} (h : t σ H fun b H1 => if b = true then t1 { D with nx := t2 D } σ H1 else t3 { D with nx := t2 D } σ H1) : tSeq (tIfS t t1 t3) t2 D σ H := h
theorem w_fall (h : t2 D σ H) : tNext { D with nx := t2 D } σ H := h
theorem w_nextJ {nx bk ct : L2.St → Hp → Prop} {rt : VK} (h : nx σ H) : tNext (Ends.mk nx rt bk ct) σ H := h
def LoopG (J : It) (g : TG) (tb : TS) (D : Ends) (nx : L2.St → Hp → Prop) (σ : L2.St) (H : Hp) : Prop := ∃ W : Nat → Nat → L2.St → Hp → Prop, (∃ m, W 0 m σ H) ∧ ∀ i m σ H, W i m σ H →
 (J.stop i H ∧ nx σ H) ∨ (J.go i H ∧ ∃ N : L2.St → Hp → Prop, (∀ σ' H', N σ' H' → ∃ m', m' < m ∧ W (i + 1) m' σ' H') ∧ ∀ x H', J.yld i H x H' → g x σ H' fun σ2 H2 => tb { D with nx := N, ct := N, bk := nx } σ2 H2)
theorem q_for {wi : TI} {g : TG} {tb : TS} (h : wi σ H fun J H1 => LoopG J g tb D (t2 D) σ H1) : tSeq (tFor wi g tb) t2 D σ H := h
theorem w_iList {tl : TE} {R : It → Hp → Prop} (h : tl σ H fun x H1 => ∃ a, x = .ref a ∧ (∃ xs, SqL K H1 a xs) ∧ R (Itl K a) H1) : iList K tl σ H R := h
theorem w_iTup {tl : TE} {R : It → Hp → Prop} (h : tl σ H fun x H1 => ∃ a, x = .ref a ∧ (∃ xs, SqT K H1 a xs) ∧ R (Itt K a) H1) : iTup K tl σ H R := h
theorem w_iRng1 {ts : TA} {R : It → Hp → Prop} (h : ts σ H fun vs H1 => ∃ j : Int, vs = [.int j] ∧ -(2 ^ 62) ≤ j ∧ j < 2 ^ 62 ∧ R (Itr 0 j.toNat) H1) : iRng1 ts σ H R := h
theorem rngO_some {lo hi : Int} {g : List Int} (h : Mi.rngO lo hi = some g) : g = Mi.rng lo hi ∧ (-(2 ^ 60) ≤ lo ∧ lo < 2 ^ 60) ∧ (-(2 ^ 60) ≤ hi ∧ hi < 2 ^ 60) := by
 unfold Mi.rngO at h
 split at h
 · rename_i c
   exact ⟨(Option.some.inj h).symm, c⟩
 · cases h
theorem rng_len (lo hi : Int) : (Mi.rng lo hi).length = (hi - lo).toNat := by unfold Mi.rng; rw [List.length_map, List.length_range]
theorem rng_at {lo hi : Int} {i : Nat} (h : i < (hi - lo).toNat) : (Mi.rng lo hi)[i]? = some (lo + i) := by
 unfold Mi.rng
 rw [List.getElem?_map, List.getElem?_range h]
 rfl
theorem l_rng {g : TG} {tb : TS} {nx : L2.St → Hp → Prop} {lo hi : Int} (Pv : Nat → L2.St → Hp → Prop) (h0 : Pv 0 σ H)
 (hs : ∀ (i : Nat) (x : Int) σ' H', (Mi.rng lo hi)[i]? = some x → Pv i σ' H' → g (.int x) σ' H' fun σ2 H2 => tb { D with nx := Pv (i + 1), ct := Pv (i + 1), bk := nx } σ2 H2) (hd : ∀ σ' H', Pv (Mi.rng lo hi).length σ' H' → nx σ' H') :
 LoopG (Itr lo (hi - lo).toNat) g tb D nx σ H := for_range (D := { D with nx := nx }) (lo := lo) (n := (hi - lo).toNat) Pv h0 (fun i σ' H' hi' p => hs i _ σ' H' (rng_at hi') p) (fun σ' H' p => hd σ' H' (by rw [rng_len]; exact p))
theorem l_rng1 {g : TG} {tb : TS} {nx : L2.St → Hp → Prop} {hi : Int} {xs : List Int} (hg : Mi.rngO 0 hi = some xs) (Pv : Nat → L2.St → Hp → Prop) (h0 : Pv 0 σ H)
   (hs : ∀ (i : Nat) (x : Int) σ' H', xs[i]? = some x → Pv i σ' H' → g (.int x) σ' H' fun σ2 H2 => tb { D with nx := Pv (i + 1), ct := Pv (i + 1), bk := nx } σ2 H2) (hd : ∀ σ' H', Pv xs.length σ' H' → nx σ' H') :
   ∃ j : Int, [V.int hi] = [.int j] ∧ -(2 ^ 62) ≤ j ∧ j < 2 ^ 62 ∧ LoopG (Itr 0 j.toNat) g tb D nx σ H := by
 obtain ⟨rfl, _, h1, h2⟩ := rngO_some hg
 refine ⟨hi, rfl, by omega, by omega, ?_⟩
 have e : hi.toNat = (hi - 0).toNat := by rw [Int.sub_zero]
 rw [e]
 exact l_rng Pv h0 hs hd
theorem l_lst {g : TG} {tb : TS} {nx : L2.St → Hp → Prop} {xs : List α} (r : (yLst τ).rep K H F v xs) (Pv : Nat → L2.St → Hp → Prop) (h0 : Pv 0 σ H) (hl : ∀ i σ' H', Pv i σ' H' → (yLst τ).rep K H' F v xs)
   (hs : ∀ (i : Nat) (x : α) (u : V) σ' H', xs[i]? = some x → τ.rep K H' [] u x → Pv i σ' H' → g u σ' H' fun σ2 H2 => tb { D with nx := Pv (i + 1), ct := Pv (i + 1), bk := nx } σ2 H2) (hd : ∀ σ' H', Pv xs.length σ' H' → nx σ' H') :
   ∃ a, v = .ref a ∧ (∃ xs, SqL K H a xs) ∧ LoopG (Itl K a) g tb D nx σ H := by
 obtain ⟨a, vs, e, s, q⟩ := lst_sq r
 refine ⟨a, e, ⟨vs, s⟩, fun i m σ' H' => m = xs.length - i ∧ i ≤ xs.length ∧ Pv i σ' H', ⟨xs.length, by omega, Nat.zero_le _, h0⟩, ?_⟩
 rintro i m σ' H' ⟨rfl, hi, p⟩
 obtain ⟨a', vs', e', s', q'⟩ := lst_sq (hl i σ' H' p)
 obtain rfl : a = a' := by rw [e] at e'; exact V.ref.inj e'
 by_cases hlt : i < xs.length
 · obtain ⟨u, hu, ru⟩ := pr_get q' (List.getElem?_eq_getElem hlt)
   refine .inr ⟨⟨vs', u, s', hu⟩, Pv (i + 1), fun σ2 H2 p' => ⟨xs.length - (i + 1), by omega, rfl, hlt, p'⟩, fun x H2 y => ?_⟩
   obtain ⟨rfl, y⟩ := y
   obtain rfl : x = u := Option.some.inj ((y _ s').symm.trans hu)
   exact hs i _ _ σ' _ (List.getElem?_eq_getElem hlt) ru p
 · obtain rfl : i = xs.length := by omega
   exact .inl ⟨⟨vs', s', by rw [pr_len q']; exact Nat.le_refl _⟩, hd σ' H' p⟩
end
def At {α β : Type} (ts : Tys α) (n : Nat) (τ : Ty β) (p : α → β) : Prop := ∀ {K : PySem.W.Frag} {H : Hp} {F : List Addr} {vs : List V} {d : α}, ts.rep K H F vs d → ∃ u F1, vs[n]? = some u ∧ τ.rep K H F1 u (p d) ∧ ∀ a ∈ F1, a ∈ F
theorem at1 {α : Type} {τ : Ty α} : At (sOne τ) 0 τ id := fun h => by
 obtain ⟨v, rfl, r⟩ := h
 exact ⟨v, _, rfl, r, fun _ h => h⟩
theorem at0 {α β : Type} {τ : Ty α} {ts : Tys β} : At (sCons τ ts) 0 τ (fun d => d.1) := fun h => by
 obtain ⟨v, ws, F1, F2, rfl, rfl, r, q⟩ := h
 exact ⟨v, F1, rfl, r, fun _ h => List.mem_append_left _ h⟩
theorem atS {α β γ : Type} {τ : Ty α} {ts : Tys β} {n : Nat} {υ : Ty γ} {p : β → γ} (A : At ts n υ p) : At (sCons τ ts) (n + 1) υ (fun d => p d.2) := fun h => by
 obtain ⟨v, ws, F1, F2, rfl, rfl, r, q⟩ := h
 obtain ⟨u, F3, e, ru, sub⟩ := A q
 exact ⟨u, F3, e, ru, fun _ h => List.mem_append_right _ (sub _ h)⟩
theorem Dj.sub {F G F1 : List Addr} (d : Dj F G) (s : ∀ a ∈ F1, a ∈ F) : Dj F1 G := fun a h => d a (s a h)
theorem itm_tup {α β : Type} {ts : Tys α} {n : Nat} {τ : Ty β} {p : α → β} {K : PySem.W.Frag} {H : Hp} {F : List Addr} {v : V} {d : α} (A : At ts n τ p) (r : (yTup ts).rep K H F v d) :
   ∃ u F1, τ.rep K H F1 u (p d) ∧ (∀ a ∈ F1, a ∈ F) ∧ (∀ {Q : VK}, Q u H → rIxT K v (.int (n : Int)) H Q) ∧ ∀ {σ : L2.St} {ta tb : TE}, Val ta σ H v → Val tb σ H (.int (n : Int)) → Val (tOp (rIxT K) ta tb) σ H u := by
 obtain ⟨a, vs, rfl, s, q⟩ := r
 obtain ⟨u, F1, e, ru, sub⟩ := A q
 have k : ∀ {Q : VK}, Q u H → rIxT K (.ref a) (.int (n : Int)) H Q := fun k => ⟨a, vs, n, u, rfl, rfl, s, atI_nat e, k⟩
 exact ⟨u, F1, ru, sub, k, fun ha hb => val_op ha hb fun Q q => k q⟩
end G
namespace G
open PySem PySem.Spec PyProof.Rows L2
section
variable {K : PySem.W.Frag} {σ σ' : L2.St} {H : Hp} {F G F1 F2 : List Addr} {ta tb te : TE} {v u x y w : V} {i j : Int} {t tu : TT} {b c a : Bool} {α β : Type} {τ : Ty α} {Q : VK} {D : Ends} {t1 t2 : TS}
theorem nn_int : V.int i ≠ .non := fun z => nomatch z
theorem nn_bl : V.bl b ≠ .non := fun z => nomatch z
theorem nn_str {s : Str} : V.str s ≠ .non := fun z => nomatch z
theorem nn_lst {xs : List α} (r : (yLst τ).rep K H F v xs) : v ≠ .non := by obtain ⟨a, vs, rfl, _⟩ := r; exact fun z => nomatch z
theorem nn_tupl {xs : List α} (r : (yTupL τ).rep K H F v xs) : v ≠ .non := by obtain ⟨a, vs, rfl, _⟩ := r; exact fun z => nomatch z
theorem nn_tup {ts : Tys α} {d : α} (r : (yTup ts).rep K H F v d) : v ≠ .non := by obtain ⟨a, vs, rfl, _⟩ := r; exact fun z => nomatch z
theorem opt_some {d : Option α} {x : α} (r : (yOpt τ).rep K H F v d) (h : d = some x) : τ.rep K H F v x := by subst h; exact r.2
theorem opt_int {d : Option Int} {x : Int} (r : (yOpt yInt).rep K H F v d) (h : d = some x) : F = [] ∧ v = .int x := opt_some r h
theorem opt_dec {d : Option α} (r : (yOpt τ).rep K H F v d) : decide (v = .non) = d.isNone := by
 cases d with
 | none => obtain ⟨_, rfl⟩ := r; rfl
 | some x => exact decide_eq_false r.1
theorem val_isN {d : Option α} (r : (yOpt τ).rep K H F v d) (ha : Val ta σ H v) : Val (tOp rIsN ta (tC .non)) σ H (.bl d.isNone) := val_op ha val_c fun Q q => ⟨rfl, by rw [opt_dec r]; exact q⟩
theorem Dj.app (d1 : Dj F1 G) (d2 : Dj F2 G) : Dj (F1 ++ F2) G := fun a h => (List.mem_append.mp h).elim (d1 a) (d2 a)
theorem app_fresh {H0 : Hp} (n1 : ∀ a ∈ F1, H0 a = none) (n2 : ∀ a ∈ F2, H0 a = none) : ∀ a ∈ F1 ++ F2, H0 a = none := fun a h => (List.mem_append.mp h).elim (n1 a) (n2 a)
theorem nil_fresh {H0 : Hp} : ∀ a ∈ ([] : List Addr), H0 a = none := fun a h => nomatch h
def LenS {α : Type} (ts : Tys α) (n : Nat) : Prop := ∀ {K : PySem.W.Frag} {H : Hp} {F : List Addr} {vs : List V} {d : α}, ts.rep K H F vs d → vs.length = n
theorem lens_one {τ : Ty α} : LenS (sOne τ) 1 := fun h => by obtain ⟨_, e, _⟩ := h; rw [e]; rfl
theorem lens_cons {τ : Ty α} {ts : Tys β} {n : Nat} (z : LenS ts n) : LenS (sCons τ ts) (n + 1) := fun h => by
 obtain ⟨_, _, _, _, e, _, _, q⟩ := h
 rw [e, List.length_cons, z q]
theorem val_lenU {ts : Tys α} {d : α} {n : Nat} (l : LenS ts n) (r : (yTup ts).rep K H F v d) (ha : Val ta σ H v) : Val (tCB (rLenQ K) (tCons ta tNil)) σ H (.int (n : Int)) := by
 obtain ⟨p, vs, rfl, s, q⟩ := r
 exact fun Q k => ha _ ⟨p, vs, rfl, .inr s, by rw [l q]; exact k⟩
end
end G
namespace G
open PySem PySem.Spec PyProof.Rows L2
theorem fn_law {P : Program} {w : World} {K : PySem.W.Frag} {mg : Str → Option Value} {x : Str} {k : Nat} {sp : Sp} {fa : Addr} (hfa : mg x = some (.ref fa)) {p : Str} (c : Cal P w K mg x [p] k sp) :
   ∃ fd : FuncData, (∀ (s : Shared) (v : Value), BindsTo s fd ⟨[v], []⟩ [(p, v)]) ∧ ∀ base : Heap, K.In base → base.Ns mainGlobals mg → FnOk P w K mg base CX0 k fa fd [p] sp := by
 obtain ⟨f, fd, g, _, b, ok⟩ := c.ex
 obtain rfl : fa = f := Value.ref.inj (Option.some.inj (hfa.symm.trans g))
 exact ⟨fd, fun s v => b s [v] rfl, fun base _ _ => ok base⟩
end G
namespace G
open PySem PySem.Spec PyProof.Rows L2
section
variable {K : PySem.W.Frag} {σ σ' : L2.St} {H : Hp} {F F1 F2 : List Addr} {ta tb te : TE} {v u x y w : V} {i j : Int} {t tu tt : TT} {b c a : Bool} {α β : Type} {τ : Ty α} {υ : Ty β} {Q : VK} {D : Ends} {t1 t2 : TS} {g : TG} {ws : List Nat}
def AppG (D : Addr) (N : Hp → Prop) (y : V) (H : Hp) : Prop := ∃ acc, H D = some (.lst acc) ∧ acc.length < sizeLine ∧ N (upd H D (.lst (acc ++ [y])))
def TurnG (g : TG) (tt : TT) (te : TE) (ws : List Nat) (σ : L2.St) (D : Addr) (N : Hp → Prop) (x : V) (H : Hp) : Prop :=
 g x (wipe σ ws) H fun σ2 H2 => wipe σ2 ws = wipe σ ws ∧ tt σ2 H2 fun b H3 => if b = true then te σ2 H3 (AppG D N) else N H3
def CompG (J : It) (g : TG) (tt : TT) (te : TE) (ws : List Nat) (σ : L2.St) (H : Hp) (Q : VK) : Prop := ∀ D, H D = none → ∃ W : Nat → Nat → Hp → Prop, (∃ m, W 0 m (upd H D (.lst []))) ∧ ∀ i m H, W i m H →
 (J.stop i H ∧ Q (.ref D) H) ∨ (J.go i H ∧ ∃ N : Hp → Prop, (∀ H', N H' → ∃ m', m' < m ∧ W (i + 1) m' H') ∧ ∀ x H', J.yld i H x H' → TurnG g tt te ws σ D N x H')
theorem w_lc {wi : TI} (h : wi σ H fun J H1 => CompG J g tt te ws σ H1 Q) : tLc wi g tt te ws σ H Q := h
theorem w_yes {Q : Bool → Hp → Prop} (h : Q true H) : tYes σ H Q := h
theorem empty_lst {p : Addr} (np : H p = none) : (yLst τ).rep K (upd H p (.lst [])) [p] (.ref p) [] := ⟨p, [], rfl, rfl, upd_same, .nil⟩
theorem comp_by {J : It} (n : Nat) (Pv : Addr → Nat → Hp → Prop) (h0 : ∀ D H', H D = none → Chg [] H H' → (yLst τ).rep K H' [D] (.ref D) [] → Pv D 0 H')
   (hs : ∀ D i H', i < n → Pv D i H' → J.go i H' ∧ ∀ x H2, J.yld i H' x H2 → TurnG g tt te ws σ D (Pv D (i + 1)) x H2) (hd : ∀ D H', H D = none → Pv D n H' → J.stop n H' ∧ Q (.ref D) H') : CompG J g tt te ws σ H Q := by
 intro D hD
 refine ⟨fun i m H' => m = n - i ∧ i ≤ n ∧ Pv D i H', ⟨n, by omega, Nat.zero_le _, h0 D _ hD (Chg.lay hD trivial) (empty_lst hD)⟩, ?_⟩
 rintro i m H' ⟨rfl, hi, p⟩
 by_cases hlt : i < n
 · obtain ⟨h1, h2⟩ := hs D i H' hlt p
   exact .inr ⟨h1, Pv D (i + 1), fun H2 p' => ⟨n - (i + 1), by omega, rfl, hlt, p'⟩, h2⟩
 · obtain rfl : i = n := by omega
   exact .inl (hd D H' hD p)
theorem kc_lst {xs : List β} (r : (yLst υ).rep K H F v xs) (Pv : Addr → Nat → Hp → Prop) (h0 : ∀ D H', H D = none → Chg [] H H' → (yLst τ).rep K H' [D] (.ref D) [] → Pv D 0 H') (hl : ∀ D i H', Pv D i H' → (yLst υ).rep K H' F v xs)
   (hs : ∀ D (i : Nat) (x : β) (u : V) H', xs[i]? = some x → υ.rep K H' [] u x → Pv D i H' → TurnG g tt te ws σ D (Pv D (i + 1)) u H') (hd : ∀ D H', H D = none → Pv D xs.length H' → Q (.ref D) H') :
   ∃ a, v = .ref a ∧ (∃ xs, SqL K H a xs) ∧ CompG (Itl K a) g tt te ws σ H Q := by
 obtain ⟨a, vs, e, s, q⟩ := lst_sq r
 refine ⟨a, e, ⟨vs, s⟩, comp_by (K := K) (τ := τ) xs.length Pv h0 (fun D i H' hi p => ?_) (fun D H' hD p => ?_)⟩
 · obtain ⟨a', vs', e', s', q'⟩ := lst_sq (hl D i H' p)
   obtain rfl : a = a' := by rw [e] at e'; exact V.ref.inj e'
   obtain ⟨u, hu, ru⟩ := pr_get q' (List.getElem?_eq_getElem hi)
   refine ⟨⟨vs', u, s', hu⟩, fun x H2 y => ?_⟩
   obtain ⟨rfl, y⟩ := y
   obtain rfl : x = u := Option.some.inj ((y _ s').symm.trans hu)
   exact hs D i _ _ _ (List.getElem?_eq_getElem hi) ru p
 · obtain ⟨a', vs', e', s', q'⟩ := lst_sq (hl D _ H' p)
   obtain rfl : a = a' := by rw [e] at e'; exact V.ref.inj e'
   exact ⟨⟨vs', s', by rw [pr_len q']; exact Nat.le_refl _⟩, hd D H' hD p⟩
theorem kc_tup {xs : List β} (r : (yTupL υ).rep K H F v xs) (Pv : Addr → Nat → Hp → Prop) (h0 : ∀ D H', H D = none → Chg [] H H' → (yLst τ).rep K H' [D] (.ref D) [] → Pv D 0 H') (hl : ∀ D i H', Pv D i H' → (yTupL υ).rep K H' F v xs)
   (hs : ∀ D (i : Nat) (x : β) (u : V) H', xs[i]? = some x → υ.rep K H' [] u x → Pv D i H' → TurnG g tt te ws σ D (Pv D (i + 1)) u H') (hd : ∀ D H', H D = none → Pv D xs.length H' → Q (.ref D) H') :
   ∃ a, v = .ref a ∧ (∃ xs, SqT K H a xs) ∧ CompG (Itt K a) g tt te ws σ H Q := by
 obtain ⟨a, vs, e, s, q⟩ := tupl_sq r
 refine ⟨a, e, ⟨vs, s⟩, comp_by (K := K) (τ := τ) xs.length Pv h0 (fun D i H' hi p => ?_) (fun D H' hD p => ?_)⟩
 · obtain ⟨a', vs', e', s', q'⟩ := tupl_sq (hl D i H' p)
   obtain rfl : a = a' := by rw [e] at e'; exact V.ref.inj e'
   obtain ⟨u, hu, ru⟩ := pr_get q' (List.getElem?_eq_getElem hi)
   refine ⟨⟨vs', u, s', hu⟩, fun x H2 y => ?_⟩
   obtain ⟨rfl, y⟩ := y
   obtain rfl : x = u := Option.some.inj ((y _ s').symm.trans hu)
   exact hs D i _ _ _ (List.getElem?_eq_getElem hi) ru p
 · obtain ⟨a', vs', e', s', q'⟩ := tupl_sq (hl D _ H' p)
   obtain rfl : a = a' := by rw [e] at e'; exact V.ref.inj e'
   exact ⟨⟨vs', s', by rw [pr_len q']; exact Nat.le_refl _⟩, hd D H' hD p⟩
theorem kc_rng {lo hi : Int} (Pv : Addr → Nat → Hp → Prop) (h0 : ∀ D H', H D = none → Chg [] H H' → (yLst τ).rep K H' [D] (.ref D) [] → Pv D 0 H')
   (hs : ∀ D (i : Nat) (x : Int) H', (Mi.rng lo hi)[i]? = some x → Pv D i H' → TurnG g tt te ws σ D (Pv D (i + 1)) (.int x) H') (hd : ∀ D H', H D = none → Pv D (Mi.rng lo hi).length H' → Q (.ref D) H') :
   CompG (Itr lo (hi - lo).toNat) g tt te ws σ H Q := by
 refine comp_by (K := K) (τ := τ) (hi - lo).toNat Pv h0 (fun D i H' hi' p => ⟨hi', fun x H2 y => ?_⟩) (fun D H' hD p => ⟨Nat.le_refl _, hd D H' hD (by rw [rng_len]; exact p)⟩)
 obtain ⟨rfl, rfl⟩ := y
 exact hs D i _ _ (rng_at hi') p
theorem kc_rng1 {hi : Int} {xs : List Int} (hg : Mi.rngO 0 hi = some xs) (Pv : Addr → Nat → Hp → Prop) (h0 : ∀ D H', H D = none → Chg [] H H' → (yLst τ).rep K H' [D] (.ref D) [] → Pv D 0 H')
   (hs : ∀ D (i : Nat) (x : Int) H', xs[i]? = some x → Pv D i H' → TurnG g tt te ws σ D (Pv D (i + 1)) (.int x) H') (hd : ∀ D H', H D = none → Pv D xs.length H' → Q (.ref D) H') :
   ∃ j : Int, [V.int hi] = [.int j] ∧ -(2 ^ 62) ≤ j ∧ j < 2 ^ 62 ∧ CompG (Itr 0 j.toNat) g tt te ws σ H Q := by
 obtain ⟨rfl, _, h1, h2⟩ := rngO_some hg
 refine ⟨hi, rfl, by omega, by omega, ?_⟩
 have e : hi.toNat = (hi - 0).toNat := by rw [Int.sub_zero]
 rw [e]
 exact kc_rng (K := K) (τ := τ) Pv h0 hs hd
theorem e_app {D : Addr} {N : Hp → Prop} {xs ys : List α} {d : α} (r : (yLst τ).rep K H [D] (.ref D) xs) (ru : τ.rep K H [] u d) (hm : Mi.app xs d = some ys) (k : ∀ H', Chg [D] H H' → (yLst τ).rep K H' [D] (.ref D) ys → N H') :
   AppG D N u H := by
 obtain ⟨p, vs, e, f, g, q⟩ := r
 obtain rfl : D = p := V.ref.inj e
 unfold Mi.app at hm
 split at hm
 · rename_i hz
   cases hm
   have c : Chg [D] H (upd H D (.lst (vs ++ [u]))) := Chg.wr g (fun z => z)
   exact ⟨vs, g, Nat.lt_of_lt_of_le (by rw [pr_len q]; exact hz) line_big, k _ c ⟨D, _, rfl, rfl, upd_same, pr_app (Paired.mapP q fun _ _ z => Ty.fz z c) (.cons (Ty.fz ru c) .nil)⟩⟩
 · cases hm
theorem w_cat {xs ys zs : List α} (r : (yLst τ).rep K H F1 v xs) (q : (yLst τ).rep K H F2 u ys) (hm : Mi.cat xs ys = some zs) (k : ∀ p H', H p = none → Chg [] H H' → (yLst τ).rep K H' [p] (.ref p) zs → Q (.ref p) H') : rCat v u H Q := by
 obtain ⟨p, vs, rfl, rfl, g, r1⟩ := r
 obtain ⟨p2, us, rfl, rfl, g2, r2⟩ := q
 unfold Mi.cat at hm
 split at hm
 · rename_i hz
   cases hm
   refine ⟨p, p2, vs, us, rfl, rfl, g, g2, sz (by rw [pr_len r1, pr_len r2]; exact hz), fun n nn => k n _ nn (Chg.lay nn trivial) ⟨n, _, rfl, rfl, upd_same, ?_⟩⟩
   exact Paired.mapP (pr_app r1 r2) fun _ _ z => Ty.ex z (Chg.lay nn trivial)
 · cases hm
theorem w_sl {r : V → Option Int → Option Int → Hp → VK → Prop} {tl th : TO} (h : te σ H fun x H1 => tl σ H1 fun l H2 => th σ H2 fun u H3 => r x l u H3 Q) : tSl r te tl th σ H Q := h
theorem w_pon {Q : Option Int → Hp → Prop} (h : Q none H) : tNoPart σ H Q := h
theorem w_pos {Q : Option Int → Hp → Prop} (h : te σ H fun x H1 => ∃ i, x = .int i ∧ Q (some i) H1) : tPart te σ H Q := h
theorem sl_l {X : Cx} {K : PySem.W.Frag} (e : X.K = K := by rfl) : SlR X (rSlL K) := by subst e; exact sl_list
theorem cut_eq {α : Type} (xs : List α) (lo hi : Option Int) : (xs.drop (HT.sIx xs.length 0 lo)).take (HT.sIx xs.length xs.length hi - HT.sIx xs.length 0 lo) = Mi.cut xs lo hi := by
 have e : ∀ n d o, HT.sIx n d o = Mi.sIx n d o := fun n d o => by cases o <;> rfl
 unfold Mi.cut
 rw [e, e]
theorem pr_cut {R : V → α → Prop} {vs : List V} {xs : List α} (r : Paired R vs xs) (lo hi : Option Int) : Paired R (cutV vs lo hi) (Mi.cut xs lo hi) := by
 rw [← cut_eq]
 unfold cutV
 rw [pr_len r]
 exact pr_take _ (pr_drop _ r)
theorem w_cutL {xs : List α} {lo hi : Option Int} (r : (yLst τ).rep K H F v xs) (k : ∀ p H', H p = none → Chg [] H H' → (yLst τ).rep K H' [p] (.ref p) (Mi.cut xs lo hi) → Q (.ref p) H') : rSlL K v lo hi H Q := by
 obtain ⟨p, vs, rfl, s, q⟩ := lst_sq r
 refine ⟨p, vs, rfl, s, fun n nn => k n _ nn (Chg.lay nn trivial) ⟨n, _, rfl, rfl, upd_same, ?_⟩⟩
 exact Paired.mapP (pr_cut q lo hi) fun _ _ z => Ty.ex z (Chg.lay nn trivial)
def rListQ (K : PySem.W.Frag) : List V → Hp → VK → Prop := fun xs H Q => ∃ p ys, xs = [.ref p] ∧ (SqL K H p ys ∨ SqT K H p ys) ∧ ∀ l, H l = none → Q (.ref l) (upd H l (.lst ys))
def rTupleQ (K : PySem.W.Frag) : List V → Hp → VK → Prop := fun xs H Q => ∃ p ys, xs = [.ref p] ∧ ((SqL K H p ys ∧ ∀ l, H l = none → Q (.ref l) (upd H l (.tup ys))) ∨ (SqT K H p ys ∧ Q (.ref p) H))
theorem cl_list {X : Cx} {K : PySem.W.Frag} (e : X.K = K := by rfl) : CallR X (.type "list") (rListQ K) := by subst e; exact call_list_of
theorem cl_tuple {X : Cx} {K : PySem.W.Frag} (e : X.K = K := by rfl) : CallR X (.type "tuple") (rTupleQ K) := by subst e; exact call_tuple_of
theorem w_listL {xs : List α} (r : (yLst τ).rep K H F v xs) (k : ∀ p H', H p = none → Chg [] H H' → (yLst τ).rep K H' [p] (.ref p) xs → Q (.ref p) H') : rListQ K [v] H Q := by
 obtain ⟨p, vs, rfl, s, q⟩ := lst_sq r
 exact ⟨p, vs, rfl, .inl s, fun n nn => k n _ nn (Chg.lay nn trivial) ⟨n, _, rfl, rfl, upd_same, Paired.mapP q fun _ _ z => Ty.ex z (Chg.lay nn trivial)⟩⟩
theorem w_tupleL {xs : List α} (r : (yLst τ).rep K H F v xs) (k : ∀ v H', Chg [] H H' → (yTupL τ).rep K H' [] v xs → Q v H') : rTupleQ K [v] H Q := by
 obtain ⟨p, vs, rfl, s, q⟩ := lst_sq r
 exact ⟨p, vs, rfl, .inl ⟨s, fun n nn => k _ _ (Chg.lay nn trivial) ⟨n, _, rfl, rfl, .inl (.inl upd_same), Paired.mapP q fun _ _ z => Ty.ex z (Chg.lay nn trivial)⟩⟩⟩
end
end G
namespace G
open PySem PySem.Spec PyProof.Rows L2
section
variable {K : PySem.W.Frag} {σ σ' : L2.St} {H : Hp} {F : List Addr} {ta tb te tv : TE} {v u x y w : V} {α β : Type} {τ : Ty α} {Q : VK} {D : Ends} {t1 t2 : TS} {C dx p : Addr} {ns : List Str} {f : Str}
end
end G
namespace G
open PySem PySem.Spec PyProof.Rows L2
structure Tx (K : PySem.W.Frag) (mg : Str → Option Value) (C : Addr) (x : Str) (ns : List Str) : Prop where
 cls : Cls K C
 mgC : mg x = some (.ref C)
 na : ∀ f ∈ ns, NoAttr K C f
section
variable {X : Cx} {K : PySem.W.Frag} {σ : L2.St} {H : Hp} {F : List Addr} {ta te : TE} {v : V} {α : Type} {Q : VK} {C : Addr} {ns : List Str} {m : Str}
end
end G
namespace G
open PySem PySem.Spec PyProof.Rows L2
section
variable {K : PySem.W.Frag} {σ σ' : L2.St} {H : Hp} {F F1 F2 Fu : List Addr} {ta tb te : TE} {v u x y : V} {i j : Int} {t tu tt : TT} {b c a : Bool} {α β : Type} {τ : Ty α} {υ : Ty β} {Q : VK} {D : Ends} {t1 t2 : TS} {g : TG} {ws : List Nat}
end
end G
namespace G
open PySem PySem.Spec PyProof.Rows L2
section
variable {K : PySem.W.Frag} {σ σ' : L2.St} {H : Hp} {F F1 F2 Fu : List Addr} {ta tb te : TE} {v u x y : V} {i j : Int} {t tu tt : TT} {b c a : Bool} {α β : Type} {τ : Ty α} {υ : Ty β} {Q : VK} {D : Ends} {t1 t2 : TS} {g : TG} {ws : List Nat}
theorem Ty.dm {d : α} (r : τ.rep K H F v d) : ∀ b ∈ F, ∃ o, H b = some o ∧ ¬ Froz o := τ.dom r
end
structure Dat {α : Type} (τ : Ty α) (n : Nat) where
 f : α → PyData
 dec : DecidableEq α
 dp : ∀ {K : PySem.W.Frag} {H : Hp} {F : List Addr} {v : V} {d : α}, τ.rep K H F v d → Dp K H v (f d)
 lay : ∀ d, (f d).canLay0 = true
 dpt : ∀ d, (f d).depth ≤ n
 eqv : ∀ d e, PyData.eqv (f d) (f e) = decide (d = e)
theorem beq_dec {α : Type} [DecidableEq α] [BEq α] [LawfulBEq α] (a b : α) : (a == b) = decide (a = b) := by
 by_cases h : a = b
 · subst h; simp
 · rw [decide_eq_false h]; simpa using h
def dat_int : Dat yInt 0 where
 f := .int
 dec := inferInstance
 dp := fun h => by obtain ⟨_, rfl⟩ := h; exact .int _
 lay := fun d => by simp [PyData.canLay0]
 dpt := fun d => by simp [PyData.depth]
 eqv := fun d e => by simp only [PyData.eqv]; exact beq_dec d e
def dat_bool : Dat yBool 0 where
 f := .bool
 dec := inferInstance
 dp := fun h => by obtain ⟨_, rfl⟩ := h; exact .bl _
 lay := fun d => by simp [PyData.canLay0]
 dpt := fun d => by simp [PyData.depth]
 eqv := fun d e => by simp only [PyData.eqv]; exact beq_dec d e
section
variable {α β : Type} {τ : Ty α} {n m : Nat}
theorem dpAll {K : PySem.W.Frag} {H : Hp} {R : V → α → Prop} {f : α → PyData} (h : ∀ u x, R u x → Dp K H u (f x)) : ∀ {vs : List V} {xs : List α}, Paired R vs xs → DpAll K H vs (xs.map f)
 | _, _, .nil => .nil
 | _, _, .cons r t => .cons (h _ _ r) (dpAll h t)
theorem dptAll {f : α → PyData} (h : ∀ d, (f d).depth ≤ n) : ∀ xs : List α, PyData.depthAll (xs.map f) ≤ n
 | [] => by simp [PyData.depthAll]
 | x :: xs => by
   simp only [List.map_cons, PyData.depthAll]
   exact Nat.max_le.mpr ⟨h x, dptAll h xs⟩
theorem eqvAllL [DecidableEq α] {f : α → PyData} (h : ∀ d e, PyData.eqv (f d) (f e) = decide (d = e)) : ∀ xs ys : List α, PyData.eqvAll (xs.map f) (ys.map f) = decide (xs = ys)
 | [], [] => by simp [PyData.eqvAll]
 | [], y :: ys => by simp [PyData.eqvAll]
 | x :: xs, [] => by simp [PyData.eqvAll]
 | x :: xs, y :: ys => by
   simp only [List.map_cons, PyData.eqvAll, h x y, eqvAllL h xs ys]
   by_cases h1 : x = y
   · by_cases h2 : xs = ys
     · simp [h1, h2]
     · simp [h2]
   · simp [h1]
end
section
variable {α β : Type} {τ : Ty α} {ts : Tys β} {n m : Nat}
end
section
variable {X : Cx} {K : PySem.W.Frag} {H : Hp} {F1 F2 : List Addr} {v u : V} {α : Type} {τ : Ty α} {Q : VK} {n : Nat} {x y : α}
theorem op_eq_d {K : PySem.W.Frag} (hu : X.A.units + 64 < cLine) (e : X.K = K := by rfl) : OpR X (compareOp .Eq) (rEqD K) := by subst e; exact op_eqD hu
theorem Dat.shaped (d : Dat τ n) (hn : n ≤ 64) (x : α) : SeqAt.shaped (d.f x) = true := by
 unfold SeqAt.shaped
 rw [d.lay x, decide_eq_true (Nat.le_trans (d.dpt x) hn)]
 rfl
end
end G
namespace G
open PySem PySem.Spec PyProof.Rows L2
section
variable {K : PySem.W.Frag} {σ σ' : L2.St} {H : Hp} {F F1 F2 Fu : List Addr} {ta tb te : TE} {v u x y : V} {i j : Int} {α β : Type} {τ : Ty α} {υ : Ty β} {Q : VK} {D : Ends} {t1 t2 : TS} {g : TG} {ws : List Nat}
theorem enumF_at {α : Type} : ∀ (k : Int) (xs : List α) (i : Nat) {x : α}, xs[i]? = some x → (Mi.enumF k xs)[i]? = some (k + i, x)
 | _, [], _, _, h => by simp at h
 | k, y :: ys, 0, x, h => by
   obtain rfl : y = x := by simpa using h
   show some (k, y) = some (k + ((0 : Nat) : Int), y)
   rw [show k + ((0 : Nat) : Int) = k by omega]
 | k, y :: ys, i + 1, x, h => by
   show (Mi.enumF (k + 1) ys)[i]? = _
   rw [enumF_at (k + 1) ys i (by simpa using h)]
   congr 2
   omega
theorem enumF_len {α : Type} : ∀ (k : Int) (xs : List α), (Mi.enumF k xs).length = xs.length
 | _, [] => rfl
 | k, _ :: ys => by show (Mi.enumF (k + 1) ys).length + 1 = ys.length + 1; rw [enumF_len]
theorem w_iEnum {ts : TA} {R : It → Hp → Prop} (h : ts σ H fun vs H1 => ∃ a xs, vs = [.ref a] ∧ SqL K H1 a xs ∧ R (Ite K a) H1) : iEnum K ts σ H R := h
theorem l_enum {tb : TS} {nx : L2.St → Hp → Prop} {xs : List α} {i1 i2 : Nat} (r : (yLst τ).rep K H F v xs) (Pv : Nat → L2.St → Hp → Prop) (h0 : Pv 0 σ H) (hl : ∀ i σ' H', Pv i σ' H' → (yLst τ).rep K H' F v xs)
   (hs : ∀ (i : Nat) (x : Int × α) (u : V) σ' H' H2, (Mi.enumF 0 xs)[i]? = some x → Chg [] H' H2 → τ.rep K H2 [] u x.2 → Pv i σ' H' → tb { D with nx := Pv (i + 1), ct := Pv (i + 1), bk := nx } ((σ'.set i1 (some (.int x.1))).set i2 (some u)) H2) (hd : ∀ σ' H', Pv (Mi.enumF 0 xs).length σ' H' → nx σ' H') :
   ∃ a xs, [v] = [.ref a] ∧ SqL K H a xs ∧ LoopG (Ite K a) (gTup K 2 (gCons (gName i1) (gCons (gName i2) gNil))) tb D nx σ H := by
 obtain ⟨a, vs, rfl, s, q⟩ := lst_sq r
 refine ⟨a, vs, rfl, s, fun i m σ' H' => m = xs.length - i ∧ i ≤ xs.length ∧ Pv i σ' H', ⟨xs.length, by omega, Nat.zero_le _, h0⟩, ?_⟩
 rintro i m σ' H' ⟨rfl, hi, p⟩
 obtain ⟨a', vs', e', s', q'⟩ := lst_sq (hl i σ' H' p)
 obtain rfl := V.ref.inj e'
 by_cases hlt : i < xs.length
 · obtain ⟨u, hu, ru⟩ := pr_get q' (List.getElem?_eq_getElem hlt)
   refine .inr ⟨⟨vs', u, s', hu⟩, Pv (i + 1), fun σ2 H2 p' => ⟨xs.length - (i + 1), by omega, rfl, hlt, p'⟩, fun x H2 y => ?_⟩
   obtain ⟨T, w, rfl, nT, rfl, y⟩ := y
   obtain rfl : w = u := Option.some.inj ((y _ s').symm.trans hu)
   have hx := enumF_at 0 xs i (List.getElem?_eq_getElem hlt)
   have c : Chg [] H' (upd H' T (.tup [.int (i : Nat), w])) := Chg.lay nT trivial
   have h := hs i _ w σ' H' _ hx c (Ty.ex ru c) p
   have e0 : (0 : Int) + (i : Int) = (i : Int) := Int.zero_add _
   rw [e0] at h
   exact ⟨T, _, rfl, .inl (.inl upd_same), rfl, _, _, rfl, _, _, rfl, rfl, h⟩
 · obtain rfl : i = xs.length := by omega
   exact .inl ⟨⟨vs', s', by rw [pr_len q']; exact Nat.le_refl _⟩, hd σ' H' (by rw [enumF_len]; exact p)⟩
end
end G
namespace G
end G
namespace PySem
open Sem (wp)
section
variable {prog : Program} {w : World} {A : Around} {E : Value → Shared → Prop} {s : Shared}
end
end PySem
namespace L2
open PySem PySem.Spec PyProof.Rows
end L2
namespace G
open PySem PySem.Spec PyProof.Rows L2
section
variable {K : PySem.W.Frag} {σ σ' : L2.St} {H : Hp} {F F1 F2 Fu : List Addr} {ta tb te : TE} {v u x y : V} {i j : Int} {α β : Type} {τ : Ty α} {υ : Ty β} {Q : VK} {D : Ends} {t1 t2 : TS} {g : TG} {ws : List Nat}
end
end G
namespace G
open PySem PySem.Spec PyProof.Rows L2
section
variable {K : PySem.W.Frag} {σ σ' : L2.St} {H : Hp} {F F1 F2 Fu : List Addr} {ta tb te : TE} {v u x y : V} {i j : Int} {α β : Type} {τ : Ty α} {υ : Ty β} {Q : VK} {D : Ends} {t1 t2 : TS} {g : TG} {ws : List Nat}
theorem st_eq {t : TS} (e : σ = σ') (h : t D σ' H) : t D σ H := e ▸ h
end
end G
namespace G
open PySem PySem.Spec PyProof.Rows L2
end G
namespace G
open PySem PySem.Spec PyProof.Rows L2
theorem toS_len (l : List Nat) : (toS l).length = l.length := by simp [toS, Str.length]
theorem toS_tl (l : List Nat) : (toS l).cps.toList = l := by simp [toS]
theorem toS_inj {a b : List Nat} (h : toS a = toS b) : a = b := by rw [← toS_tl a, h, toS_tl]
theorem toS_of {x : Str} {l : List Nat} (h : x.cps.toList = l) : x = toS l := by
 obtain ⟨c⟩ := x
 show Str.mk c = Str.mk l.toArray
 congr 1
 rw [← h]
theorem toS_app (a b : List Nat) : toS a ++ toS b = toS (a ++ b) := toS_of (by
 refine (TL.tl_append (toS a) (toS b)).trans ?_
 show (toS a).cps.toList ++ (toS b).cps.toList = _
 rw [toS_tl, toS_tl])
theorem dTx {a b : List Nat} : decide (V.str (toS a) = V.str (toS b)) = decide (a = b) := by
 by_cases h : a = b
 · subst h; simp
 · rw [decide_eq_false h, decide_eq_false]
   intro z
   exact h (toS_inj (V.str.inj z))
theorem bigS {n : Nat} (h : n ≤ Mi.big) : n ≤ sizeLine := Nat.le_trans h (by decide)
section
variable {X : Cx} {K : PySem.W.Frag} {σ σ' : L2.St} {H : Hp} {F F1 F2 Fu : List Addr} {ta tb te to : TE} {v u x y : V} {i j : Int} {α β : Type} {τ : Ty α} {υ : Ty β} {Q : VK} {D : Ends} {g : TG} {ws : List Nat} {a b c : List Nat} {t tu tt : TT}
theorem val_cS {s : Str} (h : s = toS a) : Val (tC (.str s)) σ H (.str (toS a)) := by subst h; exact val_c
theorem val_eqS (ha : Val ta σ H (.str (toS a))) (hb : Val tb σ H (.str (toS b))) : Val (tOp rEq ta tb) σ H (.bl (decide (a = b))) := val_op ha hb fun Q q => ⟨rfl, by rw [dTx]; exact q⟩
theorem w_eqS (k : Q (.bl (decide (a = b))) H) : rEq (.str (toS a)) (.str (toS b)) H Q := ⟨rfl, by rw [dTx]; exact k⟩
def rLenT : List V → Hp → VK → Prop := fun xs H Q => ∃ z, xs = [.str z] ∧ z.length ≤ sizeLine ∧ Q (.int z.length) H
theorem cl_lenTx : CallR X (.builtin "len") rLenT := call_len_str
theorem w_lenTx {n : Int} (hm : Mi.sLen a = some n) (k : Q (.int n) H) : rLenT [.str (toS a)] H Q := by
 unfold Mi.sLen at hm
 split at hm
 · obtain rfl := Option.some.inj hm
   exact ⟨_, rfl, by rw [toS_len]; exact bigS (by assumption), by rw [toS_len]; exact k⟩
 · cases hm
theorem val_lenTx {n : Int} (hm : Mi.sLen a = some n) (ha : Val ta σ H (.str (toS a))) : Val (tCB rLenT (tCons ta tNil)) σ H (.int n) := fun Q k => ha _ (w_lenTx hm k)
theorem w_ixS (hm : Mi.sAt a i = some b) (k : Q (.str (toS b)) H) : rIxS (.str (toS a)) (.int i) H Q := by
 unfold Mi.sAt at hm
 split at hm
 · cases e : Mi.at_ a i with
   | none => rw [e] at hm; cases hm
   | some z =>
     rw [e] at hm
     obtain rfl := Option.some.inj hm
     exact ⟨_, i, z, rfl, rfl, by rw [toS_len]; exact bigS (by assumption), by rw [toS_tl]; exact e, k⟩
 · cases hm
theorem val_ixS (hm : Mi.sAt a i = some b) (ha : Val ta σ H (.str (toS a))) (hb : Val tb σ H (.int i)) : Val (tOp rIxS ta tb) σ H (.str (toS b)) := val_op ha hb fun Q q => w_ixS hm q
theorem op_catS : OpR X (binaryOp .Add) rAddS := op_add_str
theorem w_catS (hm : Mi.sCat a b = some c) (k : Q (.str (toS c)) H) : rAddS (.str (toS a)) (.str (toS b)) H Q := by
 unfold Mi.sCat at hm
 split at hm
 · obtain rfl := Option.some.inj hm
   exact ⟨_, _, rfl, rfl, by rw [toS_len, toS_len]; exact bigS (by assumption), by rw [toS_app]; exact k⟩
 · cases hm
theorem val_catS (hm : Mi.sCat a b = some c) (ha : Val ta σ H (.str (toS a))) (hb : Val tb σ H (.str (toS b))) : Val (tOp rAddS ta tb) σ H (.str (toS c)) := val_op ha hb fun Q q => w_catS hm q
def rNiC : R2 := fun x y H Q => ∃ (c : Nat) (z : Str), x = .str ⟨#[c]⟩ ∧ y = .str z ∧ Q (.bl (!decide (c ∈ z.cps.toList))) H
theorem op_ni_c : OpR X (compareOp .NotIn) rNiC := op_notIn_sign
theorem sIn_some {k : Bool} (hm : Mi.sIn a b = some k) : ∃ c, a = [c] ∧ decide (c ∈ b) = k := by
 match a, hm with
 | [c], hm => exact ⟨c, rfl, by rw [← List.contains_eq_mem]; exact Option.some.inj hm⟩
theorem w_niC {k : Bool} (hm : Mi.sIn a b = some k) (q : Q (.bl (!k)) H) : rNiC (.str (toS a)) (.str (toS b)) H Q := by
 obtain ⟨c, rfl, e⟩ := sIn_some hm
 exact ⟨c, _, rfl, rfl, by rw [toS_tl, e]; exact q⟩
theorem val_niC {k : Bool} (hm : Mi.sIn a b = some k) (ha : Val ta σ H (.str (toS a))) (hb : Val tb σ H (.str (toS b))) : Val (tOp rNiC ta tb) σ H (.bl (!k)) := val_op ha hb fun Q q => w_niC hm q
theorem sIx_eq (n d : Nat) (o : Option Int) : HT.sIx n d o = Mi.sIx n d o := by
 cases o <;> rfl
theorem w_cutS {lo hi : Option Int} (hm : Mi.sCut a lo hi = some b) (k : Q (.str (toS b)) H) : rSlS (.str (toS a)) lo hi H Q := by
 unfold Mi.sCut at hm
 split at hm
 · obtain rfl := Option.some.inj hm
   refine ⟨_, rfl, by rw [toS_len]; exact bigS (by assumption), ?_⟩
   have e : cutS (toS a) lo hi = toS (Mi.cut a lo hi) := by
     unfold cutS
     rw [toS_tl, toS_len, sIx_eq, sIx_eq]
     rfl
   rw [e]; exact k
 · cases hm
def rJoinQ (K : PySem.W.Frag) : V → List V → Hp → VK → Prop := fun x xs H Q => ∃ a p, ∃ ys : List Str, x = .str a ∧ xs = [.ref p] ∧ (SqL K H p (ys.map V.str) ∨ SqT K H p (ys.map V.str)) ∧ (ys.map (·.length)).sum + ys.length * a.length ≤ 16777216 ∧ Q (.str (Txt.join a ys)) H
theorem pe_joinQ {K : PySem.W.Frag} {o e : Expr} {apos pos : Pos} (ho : PE X o to) (he : PE X e te) (hk : X.K = K := by rfl) (hs : starEach [e] X.env = [(false, eval e X.env)] := by rfl) (hbase : attributeBase o "join" X.env (eval o X.env) = eval o X.env := by rfl) (hline : (apos.endLine == pos.line) = true := by rfl) :
 PE X (.Call (.Attribute o "join" apos) [e] [] pos) (tM1 (rJoinQ K) to te) := by subst hk; exact pe_join ho he hs hbase hline
theorem joinL_eq (s : List Nat) : ∀ xs : List (List Nat), TL.joinL s xs = Mi.joinL s xs
 | [] => rfl
 | [_] => rfl
 | p :: q :: r => by
   show p ++ (s ++ TL.joinL s (q :: r)) = p ++ (s ++ Mi.joinL s (q :: r))
   rw [joinL_eq s (q :: r)]
theorem strs_mk : ∀ {vs : List V} {xs : List (List Nat)}, Paired (fun u d => yStr.rep K H [] u d) vs xs → vs = (xs.map toS).map V.str
 | _, _, .nil => rfl
 | _, _, .cons r t => by rw [r.2, strs_mk t]; rfl
theorem w_joinL {xs : List (List Nat)} {sep out : List Nat} (r : (yLst yStr).rep K H F v xs) (hm : Mi.sJoin sep xs = some out) (k : Q (.str (toS out)) H) : rJoinQ K (.str (toS sep)) [v] H Q := by
 obtain ⟨p, vs, rfl, s, q⟩ := lst_sq r
 obtain rfl := strs_mk q
 unfold Mi.sJoin at hm
 split at hm
 · rename_i hz
   obtain rfl := Option.some.inj hm
   refine ⟨_, p, xs.map toS, rfl, rfl, .inl s, ?_, ?_⟩
   · rw [List.map_map, List.length_map, toS_len]
     have e : ((fun x : Str => x.length) ∘ toS) = fun l : List Nat => l.length := by funext l; exact toS_len l
     rw [e]
     exact Nat.le_trans hz (by decide)
   · have e : Txt.join (toS sep) (xs.map toS) = toS (Mi.joinL sep xs) := by
       rw [TL.join_eq]
       refine toS_of ?_
       refine (TL.tl_join (toS sep) (xs.map toS)).trans ?_
       rw [List.map_map]
       have e2 : (fun x : Str => x.cps.toList) ∘ toS = fun l : List Nat => l := by funext l; exact toS_tl l
       show TL.joinL (toS sep).cps.toList (xs.map ((fun x : Str => x.cps.toList) ∘ toS)) = _
       rw [e2, toS_tl, List.map_id', joinL_eq]
     rw [e]; exact k
 · cases hm
theorem w_m1 {r : V → List V → Hp → VK → Prop} (h : to σ H fun x H1 => (∃ a, x = .str a) ∧ te σ H1 fun y H2 => r x [y] H2 Q) : tM1 r to te σ H Q := h
theorem w_iStr {R : It → Hp → Prop} (h : te σ H fun v H1 => ∃ x, v = .str x ∧ R (Its x) H1) : iStr te σ H R := h
theorem signs_at {s : List Nat} {n c : Nat} (h : s[n]? = some c) : (Mi.signs s)[n]? = some [c] := by
 unfold Mi.signs
 rw [List.getElem?_map, h]; rfl
theorem signs_len (s : List Nat) : (Mi.signs s).length = s.length := List.length_map ..
theorem l_str {tb : TS} {nx : L2.St → Hp → Prop} (Pv : Nat → L2.St → Hp → Prop) (h0 : Pv 0 σ H)
   (hs : ∀ (i : Nat) (x : List Nat) σ' H', (Mi.signs a)[i]? = some x → Pv i σ' H' → g (.str (toS x)) σ' H' fun σ2 H2 => tb { D with nx := Pv (i + 1), ct := Pv (i + 1), bk := nx } σ2 H2) (hd : ∀ σ' H', Pv (Mi.signs a).length σ' H' → nx σ' H') :
   ∃ x, V.str (toS a) = .str x ∧ LoopG (Its x) g tb D nx σ H := by
 have ez : (toS a).cps.size = a.length := toS_len a
 refine ⟨_, rfl, fun i m σ' H' => m = a.length - i ∧ i ≤ a.length ∧ Pv i σ' H', ⟨a.length, by omega, Nat.zero_le _, h0⟩, ?_⟩
 rintro i m σ' H' ⟨rfl, hi, p⟩
 by_cases hlt : i < a.length
 · refine .inr ⟨by show i < (toS a).cps.size; omega, Pv (i + 1), fun σ2 H2 p' => ⟨a.length - (i + 1), by omega, rfl, hlt, p'⟩, fun x H2 y => ?_⟩
   obtain ⟨rfl, z, hz, rfl⟩ := y
   have hz' : a[i]? = some z := by
     have e : (toS a).cps.toList[i]? = some z := by rw [Array.getElem?_toList]; exact hz
     rw [toS_tl] at e; exact e
   exact hs i [z] σ' _ (signs_at hz') p
 · obtain rfl : i = a.length := by omega
   exact .inl ⟨by show (toS a).cps.size ≤ _; omega, hd σ' H' (by rw [signs_len]; exact p)⟩
theorem kc_str (Pv : Addr → Nat → Hp → Prop) (h0 : ∀ D H', H D = none → Chg [] H H' → (yLst τ).rep K H' [D] (.ref D) [] → Pv D 0 H')
   (hs : ∀ D (i : Nat) (x : List Nat) H', (Mi.signs a)[i]? = some x → Pv D i H' → TurnG g tt te ws σ D (Pv D (i + 1)) (.str (toS x)) H') (hd : ∀ D H', H D = none → Pv D (Mi.signs a).length H' → Q (.ref D) H') :
   ∃ x, V.str (toS a) = .str x ∧ CompG (Its x) g tt te ws σ H Q := by
 have ez : (toS a).cps.size = a.length := toS_len a
 refine ⟨_, rfl, comp_by (K := K) (τ := τ) a.length Pv h0 (fun D i H' hi p => ⟨by show i < (toS a).cps.size; omega, fun x H2 y => ?_⟩) (fun D H' hD p => ⟨by show (toS a).cps.size ≤ _; omega, hd D H' hD (by rw [signs_len]; exact p)⟩)⟩
 obtain ⟨rfl, z, hz, rfl⟩ := y
 have hz' : a[i]? = some z := by
   have e : (toS a).cps.toList[i]? = some z := by rw [Array.getElem?_toList]; exact hz
   rw [toS_tl] at e; exact e
 exact hs D i [z] _ (signs_at hz') p
theorem val_intB {b : Bool} (ha : Val ta σ H (.bl b)) : Val (tCB rInt1 (tCons ta tNil)) σ H (.int (Mi.bI b)) := fun Q q => ha _ (.inr ⟨b, rfl, by cases b <;> exact q⟩)
theorem val_isiO {n m : String} {b : Bool} {d : Option α} (ty : ∀ {F x}, τ.rep K H F v x → TyX K H v (.type n)) (r : (yOpt τ).rep K H F v d) (ha : Val ta σ H v) (h1 : kitB n m = some b) (h2 : kitB "NoneType" m = some false) : Val (tCB (rIsi K) (tCons ta (tCons (tC (.ty m)) tNil))) σ H (.bl (d.isSome && b)) := by
 cases d with
 | none =>
   obtain ⟨_, rfl⟩ := r
   exact val_isi ha ty_non h2
 | some x =>
   have := val_isi ha (ty r.2) h1
   rw [show ((some x).isSome && b) = b by cases b <;> rfl]
   exact this
theorem tyr_int {x : Int} (r : yInt.rep K H F v x) : TyX K H v (.type "int") := by obtain ⟨_, rfl⟩ := r; exact ty_int
end
structure DatO {α : Type} (τ : Ty α) (n : Nat) where
 f : α → PyData
 ok : α → Bool
 dec : DecidableEq α
 dp : ∀ {K : PySem.W.Frag} {H : Hp} {F : List Addr} {v : V} {d : α}, τ.rep K H F v d → Dp K H v (f d)
 lay : ∀ d, ok d = true → (f d).canLay0 = true
 dpt : ∀ d, (f d).depth ≤ n
 eqv : ∀ d e, PyData.eqv (f d) (f e) = decide (d = e)
def Dat.o {α : Type} {τ : Ty α} {n : Nat} (d : Dat τ n) : DatO τ n := ⟨d.f, fun _ => true, d.dec, d.dp, fun x _ => d.lay x, d.dpt, d.eqv⟩
def dao_str : DatO yStr 0 where
 f := fun l => .str (toS l)
 ok := Mi.okS
 dec := inferInstance
 dp := fun h => by obtain ⟨_, rfl⟩ := h; exact .str _
 lay := fun d h => by
   have e : (toS d).cps = d.toArray := rfl
   simp only [PyData.canLay0, PyData.strOk, e]
   unfold Mi.okS at h
   simpa using h
 dpt := fun d => by simp [PyData.depth]
 eqv := fun d e => by
   simp only [PyData.eqv]
   rw [beq_dec]
   by_cases h : d = e
   · subst h; simp
   · rw [decide_eq_false h, decide_eq_false]
     intro z; exact h (toS_inj z)
section
variable {α β : Type} {τ : Ty α} {n m : Nat}
theorem layAllO {f : α → PyData} {ok : α → Bool} (h : ∀ d, ok d = true → (f d).canLay0 = true) : ∀ xs : List α, xs.all ok = true → PyData.canLayAll0 (xs.map f) = true
 | [], _ => by simp [PyData.canLayAll0]
 | x :: xs, q => by
   rw [List.all_cons, Bool.and_eq_true] at q
   simp [PyData.canLayAll0, h x q.1, layAllO h xs q.2]
def dao_tupl (d : DatO τ n) : DatO (yTupL τ) (n + 1) where
 f := fun xs => .tuple (xs.map d.f)
 ok := fun xs => xs.all d.ok
 dec := @instDecidableEqList _ d.dec
 dp := fun h => by
   obtain ⟨a, vs, rfl, s, q⟩ := tupl_sq h
   exact .tup s (dpAll (fun u x z => d.dp z) q)
 lay := fun xs h => by simp only [PyData.canLay0]; exact layAllO d.lay xs h
 dpt := fun xs => by simp only [PyData.depth]; exact Nat.succ_le_succ (dptAll d.dpt xs)
 eqv := fun xs ys => by simp only [PyData.eqv]; exact @eqvAllL _ d.dec _ d.eqv xs ys
end
section
variable {α β : Type} {τ : Ty α} {ts : Tys β} {n m : Nat}
theorem DatO.shaped (d : DatO τ n) (hn : n ≤ 64) (x : α) (h : d.ok x = true) : SeqAt.shaped (d.f x) = true := by
 unfold SeqAt.shaped
 rw [d.lay x h, decide_eq_true (Nat.le_trans (d.dpt x) hn)]
 rfl
variable {K : PySem.W.Frag} {H : Hp} {F1 F2 : List Addr} {v u : V} {Q : VK} {x y : α}
theorem okB {a b : Bool} {z : Unit} (h : Mi.guardO (a && b) = some z) : a = true ∧ b = true := by
 unfold Mi.guardO at h
 split at h
 · rename_i q; rw [Bool.and_eq_true] at q; exact q
 · cases h
end
end G
namespace G
open PySem PySem.Spec PyProof.Rows L2
inductive Par3 {α : Type} (R : V → List Addr → α → Prop) : List V → List (List Addr) → List α → Prop
 | nil : Par3 R [] [] []
 | cons {u : V} {Fi : List Addr} {x : α} {vs : List V} {Fs : List (List Addr)} {xs : List α} : R u Fi x → Par3 R vs Fs xs → Par3 R (u :: vs) (Fi :: Fs) (x :: xs)
theorem Par3.mapP {α : Type} {R S : V → List Addr → α → Prop} : ∀ {vs Fs} {xs : List α}, Par3 R vs Fs xs → (∀ u Fi x, Fi ∈ Fs → R u Fi x → S u Fi x) → Par3 S vs Fs xs
 | _, _, _, .nil, _ => .nil
 | _, _, _, .cons r t, h => .cons (h _ _ _ (List.mem_cons_self ..) r) (Par3.mapP t fun u Fi x m => h u Fi x (List.mem_cons_of_mem _ m))
theorem Par3.len {α : Type} {R : V → List Addr → α → Prop} : ∀ {vs Fs} {xs : List α}, Par3 R vs Fs xs → vs.length = xs.length ∧ Fs.length = xs.length
 | _, _, _, .nil => ⟨rfl, rfl⟩
 | _, _, _, .cons r t => by
   have := Par3.len t
   simp [this.1, this.2]
theorem Par3.get {α : Type} {R : V → List Addr → α → Prop} : ∀ {vs Fs} {xs : List α} (_ : Par3 R vs Fs xs) {j : Nat} {x : α}, xs[j]? = some x → ∃ u Fi, vs[j]? = some u ∧ Fs[j]? = some Fi ∧ R u Fi x
 | _, _, _, .nil, j, x, h => by simp at h
 | _, _, _, .cons (u := u) (Fi := Fi) r t, 0, x, h => by
   obtain rfl := Option.some.inj h
   exact ⟨u, Fi, rfl, rfl, r⟩
 | _, _, _, .cons r t, j + 1, x, h => Par3.get t (j := j) h
theorem Par3.pr {α : Type} {R : V → List Addr → α → Prop} {S : V → α → Prop} : ∀ {vs Fs} {xs : List α}, Par3 R vs Fs xs → (∀ u Fi x, Fi ∈ Fs → R u Fi x → S u x) → Paired S vs xs
 | _, _, _, .nil, _ => .nil
 | _, _, _, .cons r t, h => .cons (h _ _ _ (List.mem_cons_self ..) r) (Par3.pr t fun u Fi x m => h u Fi x (List.mem_cons_of_mem _ m))
theorem Par3.setAt {α : Type} {R S : V → List Addr → α → Prop} : ∀ {vs Fs} {xs : List α} (_ : Par3 R vs Fs xs) {j : Nat} {u : V} {Fi : List Addr} {y : α}, vs[j]? = some u → Fs[j]? = some Fi → S u Fi y → (∀ (k : Nat) u' Fk x, k ≠ j → Fs[k]? = some Fk → R u' Fk x → S u' Fk x) → Par3 S vs Fs (xs.set j y)
 | _, _, _, .nil, j, u, Fi, y, h, _, _, _ => by simp at h
 | _, _, _, .cons r t, 0, u, Fi, y, h1, h2, hs, ho => by
   obtain rfl := Option.some.inj h1
   obtain rfl := Option.some.inj h2
   refine .cons hs (Par3.mapP' t fun k u' Fk x hk hr => ho (k + 1) u' Fk x (by omega) hk hr)
 | _, _, _, .cons (u := u0) (Fi := F0) r t, j + 1, u, Fi, y, h1, h2, hs, ho => .cons (ho 0 _ _ _ (by omega) rfl r) (Par3.setAt t (j := j) h1 h2 hs fun k u' Fk x hk hf hr => ho (k + 1) u' Fk x (by omega) hf hr)
where
 Par3.mapP' {α : Type} {R S : V → List Addr → α → Prop} : ∀ {vs Fs} {xs : List α}, Par3 R vs Fs xs → (∀ (k : Nat) u Fk x, Fs[k]? = some Fk → R u Fk x → S u Fk x) → Par3 S vs Fs xs
 | _, _, _, .nil, _ => .nil
 | _, _, _, .cons r t, h => .cons (h 0 _ _ _ rfl r) (Par3.mapP' t fun k u Fk x hk => h (k + 1) u Fk x hk)
section
variable {K : PySem.W.Frag} {σ σ' : L2.St} {H : Hp} {F F1 F2 Fu : List Addr} {ta tb te : TE} {v u x y : V} {i j : Int} {α β : Type} {τ : Ty α} {υ : Ty β} {Q : VK}
end
end G
namespace L2
open PySem PySem.Spec PyProof.Rows
def MaskB (m : Nat) : Prop := MaskOk m ∨ m = 511
structure TabB (t : SetTable) (hs : List Int) : Prop where
 ris : Ris t.place.toList
 dm : t.dummies = #[]
 sz : t.place.size = hs.length
 mok : MaskB t.mask
 bd : ∀ x ∈ t.place.toList, x ≤ t.mask
 met : ∀ (i : Nat) (h : Int) (j : Nat), hs[i]? = some h → t.place.toList[i]? = some j → ∃ k, way t.mask h k = j ∧ ∀ c, c < k → way t.mask h c ∈ t.place.toList
theorem TabB.of {t : SetTable} {hs : List Int} (T : TabOk t hs) : TabB t hs := ⟨T.ris, T.dm, T.sz, .inl T.mok, T.bd, T.reach⟩
theorem TabB.ok {t : SetTable} {hs : List Int} (T : TabB t hs) (h : MaskOk t.mask) : TabOk t hs := ⟨T.ris, T.dm, T.sz, h, T.bd, T.met⟩
section
variable {t : SetTable} {hs : List Int} (T : TabB t hs)
include T
end
end L2
namespace L2
open PySem PySem.Spec PyProof.Rows
section
variable {P : Program} {w : World} {A : Around} {E : Value → Shared → Prop} {s : Shared} {a : Addr} {L : List (Addr × List Int)} {es : Array (Int × Value)} {ep : Nat} {t : SetTable}
structure SetB (P : Program) (w : World) (h : Heap) (a : Addr) (L : List (Addr × List Int)) (es : Array (Int × Value)) (ep : Nat) (t : SetTable) : Prop where
 obj : ∃ o, h.get? a = some o ∧ o.ExactSet ∧ o.data = .set es ep t
 rws : es.toList = rowsOf P w L
 tb : TabB t (L.map fun p => thash P w p.2)
 ndp : (L.map (·.2)).Nodup
 tps : ∀ p ∈ L, IsT P w h p.2 p.1
 pln : t.plain = true
 ld : w.params.followText "set-order" = true ∨ t.led = true
 rm : L.length * 5 < t.mask * 3
theorem SetB.of {h : Heap} (R : SetTR P w h a L es ep t) : SetB P w h a L es ep t := ⟨R.ob, R.rows, .of R.tab, R.nd, R.tup, R.plain, R.led, R.room⟩
theorem SetB.sz {h : Heap} (R : SetB P w h a L es ep t) : es.size = L.length := by
 have z := congrArg List.length R.rws
 simpa [rowsOf] using z
end
end L2
namespace L2
open PySem PySem.Spec PyProof.Rows
structure SetB0 (P : Program) (w : World) (h : Heap) (a : Addr) (L : List (Addr × List Int)) : Prop where
 has : ∃ (es : Array (Int × Value)) (ep : Nat) (t : SetTable), (∃ o, h.get? a = some o ∧ o.ExactSet ∧ o.data = .set es ep t) ∧ es.toList = rowsOf P w L ∧ TabB t (L.map fun p => thash P w p.2) ∧ (L.map (·.2)).Nodup ∧ t.plain = true ∧
   (w.params.followText "set-order" = true ∨ t.led = true) ∧ L.length * 5 < t.mask * 3
section
variable {P : Program} {w : World} {h : Heap} {a : Addr} {L : List (Addr × List Int)} {es : Array (Int × Value)} {ep : Nat} {t : SetTable}
theorem SetB.bare (R : SetB P w h a L es ep t) : SetB0 P w h a L := ⟨es, ep, t, R.obj, R.rws, R.tb, R.ndp, R.pln, R.ld, R.rm⟩
theorem SetB0.whole (R : SetB0 P w h a L) (ht : ∀ p ∈ L, IsT P w h p.2 p.1) : ∃ es ep t, SetB P w h a L es ep t := by
 obtain ⟨es, ep, t, x1, x2, x3, x4, x5, x6, x7⟩ := R.has
 exact ⟨es, ep, t, x1, x2, x3, x4, ht, x5, x6, x7⟩
end
section
variable {X : Cx}
variable {o e : Expr} {es : List Expr} {to : TE} {t : TA} {apos cpos : Pos}
end
end L2
namespace L2
open PySem PySem.Spec PyProof.Rows
section
variable {X : Cx} {pins : List (Addr × Obj)} {σ : St} {H : Hp} {s : Shared}
end
end L2
namespace G
open PySem PySem.Spec PyProof.Rows L2
section
variable {X : Cx} {P : Program} {w : World} {K : PySem.W.Frag} {σ σ' : L2.St} {H : Hp} {F F1 F2 Fu : List Addr} {ta tb te to : TE} {v u x y : V} {i j : Int} {Q : VK}
end
end G
namespace G
open PySem PySem.Spec PyProof.Rows L2
theorem pg_tupk {X : Cx} {K : PySem.W.Frag} {es : List Expr} {k : Nat} {t : TGs} {n : Nat} {pos : Pos} (hc : X.calm = true) (h : PGs X es t) (e : X.K = K := by rfl)
 (hn : (assignEach es X.env).length = n := by rfl) (hst : (assignEach es X.env).findIdx? (·.1) = none := by rfl) : PG X (.Tuple es k pos) (gTup K n t) := by subst e; exact pg_tup hc h hn hst
end G
namespace G
open PySem PySem.Spec PyProof.Rows L2
section
variable {K : PySem.W.Frag} {σ σ' : L2.St} {H : Hp} {F F1 F2 Fu : List Addr} {ta tb tc te : TE} {tA : TT} {v u x y : V} {i j k : Int} {α β : Type} {τ : Ty α} {υ : Ty β} {Q : VK} {c : Bool}
end
end G
namespace G
open PySem PySem.Spec PyProof.Rows L2
section
variable {X : Cx} {K : PySem.W.Frag} {σ σ' : L2.St} {H : Hp} {F F1 F2 Fu : List Addr} {ta tb te : TE} {v u x y : V} {Q : VK} {b c : Bool}
end
end G
namespace G
open PySem PySem.Spec PyProof.Rows L2
section
variable {K : PySem.W.Frag} {σ σ' : L2.St} {H : Hp} {F F1 F2 Fu G : List Addr} {ta tb te : TE} {v u x y : V} {i j : Int} {α β : Type} {τ : Ty α} {υ : Ty β} {ts : Tys α} {Q : VK} {D : Ends} {nx : L2.St → Hp → Prop}
end
end G
namespace L2
open PySem PySem.Spec PyProof.Rows
section
variable {prog : Program} {w : World} {A : Around} {E : Value → Shared → Prop} {s : Shared}
end
section
variable {X : Cx}
end
end L2
namespace Mi
end Mi
namespace G
open PySem PySem.Spec PyProof.Rows L2
section
variable {X : Cx} {K : PySem.W.Frag} {σ σ' : L2.St} {H : Hp} {F : List Addr} {v : V} {Q : VK} {m : Int}
end
end G
namespace G
open PySem PySem.Spec PyProof.Rows L2
section
variable {X : Cx} {P : Program} {w : World} {K : PySem.W.Frag} {σ σ' : L2.St} {H : Hp} {F F1 F2 Fu : List Addr} {ta tb te to : TE} {v u x y : V} {i j : Int} {Q : VK} {α : Type} {τ : Ty α} {n : Nat}
theorem units1 {k : Nat} {A : Around} (r : Room k A) : A.units + 65 < cLine := by have := r.un; omega
theorem op_in_d {K : PySem.W.Frag} (hu : X.A.units + 65 < cLine) (e : X.K = K := by rfl) : OpR X (compareOp .In) (rInD K) := by subst e; exact op_inD hu
theorem op_ni_d {K : PySem.W.Frag} (hu : X.A.units + 65 < cLine) (e : X.K = K := by rfl) : OpR X (compareOp .NotIn) (rNotInD K) := by subst e; exact op_notInD hu
theorem opt_n : (yOpt τ).rep K H [] .non (none : Option α) := ⟨rfl, rfl⟩
theorem opt_i {d : α} (nn : v ≠ .non) (r : τ.rep K H F v d) : (yOpt τ).rep K H F v (some d) := ⟨nn, r⟩
theorem Ty.freshOr {G Fp : List Addr} {d : α} (r : τ.rep K H F v d) (np : ∀ a ∈ G, H a = none ∨ a ∈ Fp) (dj : Dj F Fp) : Dj F G := fun a h z => by
 rcases np a z with e | e
 · obtain ⟨o, e2, _⟩ := τ.dom r a h
   rw [e] at e2; cases e2
 · exact dj a h e
end
end G
namespace G
open PySem PySem.Spec PyProof.Rows L2
section
variable {X : Cx} {P : Program} {w : World} {K : PySem.W.Frag} {σ σ' : L2.St} {H : Hp} {F F1 F2 Fu : List Addr} {ta tb te to : TE} {tA : TT} {v u x y : V} {i j : Int} {Q : VK} {α β : Type} {τ : Ty α} {υ : Ty β} {n : Nat} {g : TG} {tt : TT} {ws : List Nat}
end
end G
namespace L2
open PySem PySem.Spec PyProof.Rows
section
variable {X : Cx} {e e3 : Expr} {te : TE} {t3 : TO} {pos p2 : Pos}
end
end L2
namespace G
open PySem PySem.Spec PyProof.Rows L2
section
variable {X : Cx} {P : Program} {w : World} {K : PySem.W.Frag} {σ σ' : L2.St} {H : Hp} {F F1 F2 Fu : List Addr} {ta tb te to : TE} {v u x y : V} {i j : Int} {Q : VK} {α β : Type} {τ : Ty α} {υ : Ty β}
end
end G
namespace RT
open PySem PySem.Spec PyProof.Rows L2
section
variable {prog : Program} {w : World} {A : Around} {E : Value → Shared → Prop} {s : Shared}
end
end RT
namespace L2
open PySem PySem.Spec PyProof.Rows RT
section
variable {X : Cx}
end
end L2
namespace G
open PySem PySem.Spec PyProof.Rows L2
section
variable {X : Cx} {K : PySem.W.Frag} {σ σ' : L2.St} {H : Hp} {F : List Addr} {te : TE} {v : V} {Q : VK} {α : Type} {τ : Ty α}
end
end G
namespace L2
open PySem PySem.Spec PyProof.Rows
def rRepS : R2 := fun x y H Q => ∃ i k, x = .str i ∧ y = .int k ∧ -(2 ^ 60) ≤ k ∧ k < 2 ^ 60 ∧ i.length * k.toNat ≤ 1000000 ∧ Q (.str ⟨((List.replicate k.toNat i.cps.toList).flatten).toArray⟩) H
theorem foldl_app : ∀ (l : List (Array Nat)) (a : Array Nat), (l.foldl (· ++ ·) a).toList = a.toList ++ (l.map Array.toList).flatten
 | [], a => by simp
 | x :: l, a => by rw [List.foldl_cons, foldl_app l (a ++ x), Array.toList_append, List.map_cons, List.flatten_cons, List.append_assoc]
theorem op_repS {X : Cx} : OpR X (binaryOp .Mult) rRepS := by
 intro pins s σ H x y v u Q I rx ry h
 obtain ⟨i, k, rfl, rfl, h1, h2, hz, q⟩ := h
 obtain ⟨t, rfl⟩ := rx
 obtain ⟨t2, rfl⟩ := ry
 refine PySem.P.mul_str (by
   have e1 : ¬ k < -(2 ^ 63 : Int) := by omega
   have e2 : ¬ k ≥ 2 ^ 63 := by omega
   rw [decide_eq_false e1, decide_eq_false e2]; rfl) (fun hk hb => ?_) (fun hk hb => ?_) ?_
 · have hk1 : 1 ≤ k := by omega
   have e : ((i.length * k.toNat : Nat) : Int) = (i.length : Int) * k := by
     rw [Int.natCast_mul, Int.toNat_of_nonneg (by omega)]
   have hm : (i.length : Int) * k ≤ 1000000 := by rw [← e]; exact Int.ofNat_le.mpr hz
   have hle : (i.length : Int) ≤ (2 ^ 63 - 1) / k := (Int.le_ediv_iff_mul_le (by omega)).mpr (Int.le_trans hm (by decide))
   omega
 · unfold Builtin.Str.tooLong
   exact decide_eq_false (by have := sizeLine_eq; omega)
 · by_cases c1 : k < 1
   · rw [if_pos c1]
     have e0 : k.toNat = 0 := by omega
     rw [e0] at q
     exact ⟨by decide, .str _, H, I.tok _, ⟨_, rfl⟩, q⟩
   · rw [if_neg c1]
     by_cases c2 : (k == 1 || i.length == 0) = true
     · rw [if_pos c2]
       have e : (⟨((List.replicate k.toNat i.cps.toList).flatten).toArray⟩ : Str) = i := by
         rcases Bool.or_eq_true _ _ ▸ c2 with z | z
         · have hk : k = 1 := by simpa using z
           subst hk
           show (⟨((List.replicate 1 i.cps.toList).flatten).toArray⟩ : Str) = i
           simp
         · have hl : i.cps.toList = [] := by
             have : i.length = 0 := by simpa using z
             have h2 : i.cps.size = 0 := this
             exact List.length_eq_zero_iff.mp (by rw [Array.length_toList]; exact h2)
           rw [hl]
           have hi : i = ⟨#[]⟩ := by
             cases i with
             | mk c => congr 1; exact Array.toList_inj.mp (by rw [hl])
           rw [hi]; simp
       rw [e] at q
       exact ⟨.str i, H, I, ⟨t, rfl⟩, q⟩
     · rw [if_neg c2]
       have e : (⟨(List.replicate k.toNat i.cps).foldl (· ++ ·) #[]⟩ : Str) = ⟨((List.replicate k.toNat i.cps.toList).flatten).toArray⟩ := by
         congr 1
         apply Array.toList_inj.mp
         rw [foldl_app]
         simp
       rw [e]
       refine ⟨?_, .str _, H, I.tok _, ⟨_, rfl⟩, q⟩
       show (((List.replicate k.toNat i.cps.toList).flatten).toArray).size ≤ sizeLine
       rw [List.size_toArray, List.length_flatten, List.map_replicate, List.sum_replicate_nat, Array.length_toList]
       have hm : k.toNat * i.cps.size ≤ 1000000 := by rw [Nat.mul_comm]; exact hz
       exact Nat.le_trans hm (by rw [sizeLine_eq]; decide)
end L2
namespace G
open PySem PySem.Spec PyProof.Rows L2
section
variable {X : Cx} {K : PySem.W.Frag} {σ σ' : L2.St} {H : Hp} {F : List Addr} {te ta tb : TE} {v : V} {Q : VK} {α : Type} {τ : Ty α} {a b c : List Nat} {i : Int} {D : Ends} {t2 : TS}
theorem w_repS (hm : Mi.sRep a i = some c) (k : Q (.str (toS c)) H) : rRepS (.str (toS a)) (.int i) H Q := by
 unfold Mi.sRep at hm
 split at hm
 · rename_i hc
   obtain rfl := Option.some.inj hm
   refine ⟨toS a, i, rfl, rfl, hc.1, hc.2.1, by rw [toS_len]; exact hc.2.2, ?_⟩
   rw [toS_tl]; exact k
 · cases hm
theorem val_repS (hm : Mi.sRep a i = some c) (ha : Val ta σ H (.str (toS a))) (hb : Val tb σ H (.int i)) : Val (tOp rRepS ta tb) σ H (.str (toS c)) := val_op ha hb fun Q q => w_repS hm q
end
end G
namespace L2
open PySem PySem.Spec PyProof.Rows ItX
structure FnOkS (P : Program) (w : World) (K : PySem.W.Frag) (mg : Str → Option Value) (base : Heap) (CX : CXT) (k : Nat) (f : Addr) (fd : FuncData) (ps : List Str) (sp : Nat → Sp) : Prop where
 len : ∀ n vs H Q E, sp n vs H Q E → vs.length = ps.length
 run : ∀ (A : Around) (outer : List Env) (s : Shared) (H : Hp) (args : Args) (us : List Value) (vs : List V) (Q : VK) (E : XK), Room k A → Env0 P w K mg base A outer s H → BindsTo s fd args (ps.zip us) → Vals vs us → sp s.heap.objs.size vs H Q E →
   codeAny (model P w) A (.call (.ref f) args) (CR CX outer P w H s Q E) s
theorem fn_ofS {CX : CXT} {P : Program} {w : World} {K : PySem.W.Frag} {mg : Str → Option Value} {base : Heap} {k : Nat} {f : Addr} {name qual : Str} {params : Arguments} {body : List Stmt} {scope : Scope} {dV kV doc pm cdv ct oc : Value} {an od : Option Addr}
   {osl : Array (Option Value)} {N ps : List Str} {sp : Nat → Sp} (lk : K.lookup f = some ⟨oc, od, .func (PySem.W.fnOf name qual params body scope dV kV doc pm an cdv ct), osl⟩) (hcd : PySem.W.codeIn K cdv qual = true) (S : FnScope N ps scope)
   (len : ∀ n vs H Q E, sp n vs H Q E → vs.length = ps.length)
   (hbody : ∀ (A : Around) (outer : List Env) (s : Shared) (H : Hp) (vs : List V) (Q : VK) (E : XK), Room k (A.deeper (envOfC qual scope s.heap.objs.size f cdv)) → sp s.heap.objs.size vs H Q E →
     ∃ t, PSs (cxOf CX P w K mg base N qual scope f cdv A outer s H E) body t ∧ t { nx := fun _ H' => Q .non H', rt := Q } (start N vs) H) :
   FnOkS P w K mg base CX (k + 1) f (PySem.W.fnOf name qual params body scope dV kV doc pm an cdv ct) ps sp := by
 refine ⟨len, fun A outer s H args us vs Q E hr e0 hb r hsp => ?_⟩
 have hl := len _ _ _ _ _ hsp
 have KX : K.In s.heap := e0.mod.kin.keeps fun b o e => (e0.bs b o e).1
 have lim : s.heap.NoLimit := e0.mod.nolimit.keeps fun b o e => (e0.bs b o e).1
 have hkind : ∀ y ∈ ps.zip us, scope.names.lookup y.1 = some .local ∨ (scope.names.lookup y.1 = some .cell ∧ ((cellsFrom (s.heap.objs.size + 1) scope.names []).lookup y.1).isSome = true) := fun ⟨n, v⟩ hy => by
   rcases S.par n (List.of_mem_zip hy).1 with q | q
   · exact .inl q
   · exact .inr ⟨q, PySem.W.cellsFrom_some _ _ _ (.inl q)⟩
 refine codeAny_call_function hr.depth (KX _ _ lk) rfl S.co S.gen rfl (PySem.W.codeRec_of KX hcd) (hb _ _ _ _ ?_)
 refine wpAny_newFunctionEnv_cells S.kind hkind fun env he s1 x => ?_
 subst he
 refine ⟨lim.keeps x.toInCall.keep, codeAny_func ?_⟩
 obtain ⟨t, ht, hq⟩ := hbody A outer s H vs Q E (hr.deeper _) hsp
 have I : Inv (cxOf CX P w K mg base N qual scope f cdv A outer s H E) [] (start N vs) H s1 := inv_start S hr.hd e0 hl r x
 refine wpAny_mono (ht.run [] s1 (start N vs) H _ I hq) (fun fl s' hs => ?_) fun e s' hs => hs
 have fin : ∀ {σ' : St} {H' : Hp} {v : V} {u : Value}, Inv (cxOf CX P w K mg base N qual scope f cdv A outer s H E) [] σ' H' s' → RelV v u → Q v H' → CE outer P w H s Q u s' :=
   fun {σ' H' v u} J rv q => ⟨v, H', J.os, J.bare, J.base, J.hok, rv, q⟩
 cases fl with
 | ret u =>
   obtain ⟨v, σ', H', J, rv, q⟩ := hs
   exact fin J rv q
 | next =>
   obtain ⟨σ', H', J, q⟩ := hs
   exact fin (v := V.non) (u := Value.none) J rfl q
 | brk =>
   obtain ⟨_, _, _, q⟩ := hs
   exact False.elim q
 | cont =>
   obtain ⟨_, _, _, q⟩ := hs
   exact False.elim q
section
variable {X : Cx} {tg e : Expr} {te : TE} {C fi : Addr} {fd : FuncData} {n : Nat} {fld : Str}
end
end L2
namespace G
open PySem PySem.Spec PyProof.Rows L2
theorem okS {P : Program} {w : World} {K : PySem.W.Frag} {mg : Str → Option Value} {base : Heap} {x qual : Str} {st : Stmt} {f : Addr} {fd : FuncData} {N ps : List Str} {k : Nat} {sp : Nat → Sp} (F : Fun K x qual st f fd) (S : FnScope N ps (defScope st)) (len : ∀ n vs H Q E, sp n vs H Q E → vs.length = ps.length)
   (hbody : ∀ (cdv : Value) (A : Around) (outer : List Env) (s : Shared) (H : Hp) (vs : List V) (Q : VK) (E : XK), Room k (A.deeper (envOfC qual (defScope st) s.heap.objs.size f cdv)) → sp s.heap.objs.size vs H Q E →
     ∃ t, PSs (cxOf CX0 P w K mg base N qual (defScope st) f cdv A outer s H E) (defBody st) t ∧ t { nx := fun _ H' => Q .non H', rt := Q } (start N vs) H) : FnOkS P w K mg base CX0 (k + 1) f fd ps sp := by
 obtain ⟨oc, od, kV, doc, pm, an, cdv, ct, osl, rfl, lk, hcd⟩ := F.ex
 exact fn_ofS lk hcd S len fun A outer s H vs Q E hr hsp => hbody cdv A outer s H vs Q E hr hsp
section
variable {X : Cx} {K : PySem.W.Frag} {σ σ' : L2.St} {H : Hp} {F : List Addr} {te : TE} {v : V} {α β : Type} {τ : Ty α} {C : Addr} {ns : List Str} {fld : Str}
end
end G
namespace L2
open PySem PySem.Spec PyProof.Rows ItX
section
variable {X : Cx} {C f : Addr} {fd : FuncData} {k : Nat} {ps : List Str} {sp : Sp}
end
section
variable {X : Cx} {C fi : Addr} {fd : FuncData} {n : Nat} {fld : Str}
end
end L2
namespace G
open PySem PySem.Spec PyProof.Rows L2
section
variable {X : Cx} {K : PySem.W.Frag} {σ σ' : L2.St} {H : Hp} {F : List Addr} {ta te : TE} {v x y : V} {α β : Type} {τ : Ty α} {C : Addr} {ns : List Str} {fld : Str} {Q : VK}
def tTru (K : PySem.W.Frag) (ta : TE) : TT := fun σ H Q => ta σ H fun x H' => ∃ k, TruV K x H' k ∧ Q k H'
theorem pt_truK {a : Expr} (ha : PE X a ta) (he : ∀ whole, isTrue a X.env whole = (do let v ← whole; standAt a.pos; holding [v] (truthy v)) := by intro _; rfl) (e : X.K = K := by rfl) : PT X a (tTru K ta) := by
 subst e; exact pt_truth ha he
theorem emp_pr {R : V → α → Prop} {vs : List V} {xs : List α} (q : Paired R vs xs) : vs.isEmpty = xs.isEmpty := by cases q <;> rfl
theorem ans_truL {xs : List α} (r : (yLst τ).rep K H F v xs) (h : Val ta σ H v) : Ans (tTru K ta) σ H (!xs.isEmpty) := fun Q q => by
 obtain ⟨p, vs, rfl, s, pq⟩ := lst_sq r
 exact h _ ⟨!vs.isEmpty, .inl ⟨vs, s, rfl⟩, by rw [emp_pr pq]; exact q⟩
end
end G
namespace PySem
namespace ErrX
open PySem.W PySem.Calls PyProof.Rows PySem.HandSPX
def eA (p1 p2 : Pos) : Arguments := { posonlyargs := [], args := [{ arg := "self", annotation := none, pos := p1 }, { arg := "part", annotation := none, pos := p2 }], vararg := none, kwonlyargs := [], kw_defaults := [], kwarg := none, defaults := [] }
def eB (m : Str) (p0 p1 p2 p3 p4 p5 p6 p7 q1 q2 q3 q4 : Pos) : List Stmt :=
 [.Expr (.Call (.Attribute (.Call (.Name "super" p0) [] [] p1) "__init__" p2) [.BinOp (.Constant (.str m) 0 p3) .Add (.Name "part" p4) p5] [] p6) p7, .Assign [.Attribute (.Name "self" q1) "part" q2] (.Name "part" q3) q4]
def eS : Scope := { kind := .function, names := [(PySem.Str.ofString "self", .local), (PySem.Str.ofString "part", .local), (PySem.Str.ofString "__class__", .free), (PySem.Str.ofString "super", .globalImplicit)], isGenerator := false, isCoroutine := false, more := [] }
structure ErrTxt (P : Program) (K : Frag) (mg : Str → Option Value) (x qual : Str) (st : Stmt) (C fI : Addr) : Prop where
 gC : mg x = some (.ref C)
 cls : ∃ nm q N bs bm sn sub ab col dd k0 k1 k2 k3 k5, K.lookup C = some (excClassObj nm q C N bs bm true sn sub ab col dd k0 k1 k2 k3 k5 "ValueError.__new__") ∧ refsVE bm = true
 sa : findIn K (.ref C) "__setattr__" = some (some (.builtin "object.__setattr__"))
 ga : findIn K (.ref C) "__getattribute__" = some (some (.builtin "BaseException.__getattribute__"))
 gg : findIn K (.ref C) "__getattr__" = some none
 noN : findIn K (.ref C) "part" = some none
 iC : findIn K (.ref C) "__init__" = some (some (.ref fI))
 tC : typeIn K (.ref fI) = some (.type "function")
 kC : keepIn K (.ref C) = true
 exC : subIn K (.ref C) (.type "BaseException") = some true
 veC : subIn K (.ref C) (.type "ValueError") = some true
 tyC : typeIn K (.ref C) = some (.type "type")
 hdC : hasDictIn K C = true
 mroC : mroIn K C (.ref C) = some true
 sup : ks_superIn K C C "__init__" = some (some (.builtin "ValueError.__init__"))
 opq : nsIn K cStatics "thirdparty.any" = some none
 nsu : mg "super" = none
 top : (P.main.scope.names.lookup ("super" : Str)).isSome = false
 fn : ∃ (oc : Value) (od : Option Addr) (doc pm : Value) (an : Option Addr) (cda : Addr) (ct : Value) (cc : Addr) (osl : Array (Option Value)),
   K.lookup fI = some ⟨oc, od, .func (ksFn "__init__" qual (L2.defArgs st) (L2.defBody st) (L2.defScope st) .none .none doc pm an (.ref cda) ct cc), osl⟩ ∧ codeIn K (.ref cda) qual = true ∧
   (∃ (ccl : Value) (cdd : Option Addr) (vs : Array Value) (ccs : Array (Option Value)) (file : Str) (tf : Tok), K.lookup cda = some ⟨ccl, cdd, .fields vs, ccs⟩ ∧ vs[2]? = some (.str file tf) ∧ ((P.main.file : Str) == file) = true) ∧
   ∃ (cl : Value) (cld : Option Addr) (csl : Array (Option Value)), K.lookup cc = some ⟨cl, cld, .cell (some (.ref C)), csl⟩
 shape : ∃ (msg : Str) (r1 r2 p0 p1 p2 p3 p4 p5 p6 p7 q1 q2 q3 q4 : Pos), L2.defArgs st = eA r1 r2 ∧ L2.defBody st = eB msg p0 p1 p2 p3 p4 p5 p6 p7 q1 q2 q3 q4 ∧ L2.defScope st = eS ∧ msg.length ≤ 100 ∧
   ∀ L f cda cc : Addr, ∃ pl : Sem Bool, eval (.Call (.Attribute (.Call (.Name "super" p0) [] [] p1) "__init__" p2) [.BinOp (.Constant (.str msg) 0 p3) .Add (.Name "part" p4) p5] [] p6) (ksEnv qual eS L f (.ref cda) cc) = (do
     let ov ← attributeBase (.Call (.Name "super" p0) [] [] p1) "__init__" (ksEnv qual eS L f (.ref cda) cc) (eval (.Call (.Name "super" p0) [] [] p1) (ksEnv qual eS L f (.ref cda) cc))
     standAt p2.atName
     let (f', first) ← holding [ov] (getMethod ov "__init__" pl)
     callWith p6 f' first (backTo p6 (starEach [.BinOp (.Constant (.str msg) 0 p3) .Add (.Name "part" p4) p5] (ksEnv qual eS L f (.ref cda) cc))) [])
structure InitEnd (h h' : Heap) (x C dx : Addr) (v : Value) : Prop where
 keep : ∀ b o, b ≠ x → h.get? b = some o → h'.get? b = some o
 obj : ∃ t1 : Addr, h'.get? x = some { cls := .ref C, dict := some dx, data := .fields #[.ref t1, .none, .none, .none, .bool false, .none] }
 dbig : h.objs.size ≤ dx
 dne : dx ≠ x
 ns : h'.Ns1 dx (fun y => if y = "part" then some v else none)
section
variable {prog : Program} {w : World} {A : Around} {E : Value → Shared → Prop} {R : Result → Shared → Prop} {s : Shared} {K : Frag} {mg mb : Str → Option Value} {C fI : Addr} {cn qual : Str} {st : Stmt}
theorem ldX {M : Model} {s : Shared} {name : Str} {scope : Scope} {L a cc : Addr} {cd : Value} {m : Str → Option Value} {x : Str} {pos : Pos} {v : Value} {Q : Value → Shared → Prop} {A : Around} {E : Value → Shared → Prop} (hn : s.heap.Ns L m) (hv : m x = some v) (h : Q v s)
 (hk : scope.kind = .function := by rfl) (hl : (ksEnv name scope L a cd cc).kindOf x = some .local := by rfl) (hd : (x == ("__debug__" : Str)) = false := by decide) :
 wpAny M A (eval (.Name x pos) (ksEnv name scope L a cd cc)) Q E s := wpAny_Name (wpAny_loadName_local hk hl hn hv h) hd
theorem err_init (T : ErrTxt prog K mg cn qual st C fI) {x t0 : Addr} {y : Str} {ty : Tok} (X : K.In s.heap) (hg : s.heap.Ns mainGlobals mg) (hb : s.heap.Ns builtinsNs mb) (hbs : mb "super" = bootBuiltins "super") (hlim : s.heap.NoLimit) (hx : s.heap.get? x = some (excO C t0)) (hnx : K.lookup x = none) (hy : y.length ≤ 1000000) (hroom : A.depth < recursionLimit)
   (hq : ∀ h' tk dx, InitEnd s.heap h' x C dx (.str y ty) → R (.ok (.ret .none)) { s with heap := h', toks := tk }) :
   codeAny (model prog w) A (.call (.ref fI) ⟨[.ref x, .str y ty], []⟩) R s := by
 obtain ⟨oc, od, doc, pm, an, cda, ct, cc, osl, ho, hcd, ⟨ccl, cdd, vs, ccs, file, tf, hcode, hvs, hfile⟩, cl, cld, csl, hcell⟩ := T.fn
 obtain ⟨msg, r1, r2, p0, p1, p2, p3, p4, p5, p6, p7, q1, q2, q3, q4, eA', eB', eS', hml, hev⟩ := T.shape
 rw [eA', eB', eS'] at ho
 obtain ⟨nm, q, N, bs, bm, sn, sub, ab, col, dd, k0, k1, k2, k3, k5, hC, hbm⟩ := T.cls
 have hcl : clsIn K C = some { name := nm, bases := bs, mro := .ref C :: bm, ns := N, qualname := q, hasDict := true, slotNames := sn, subclasses := sub, abstract := ab, collection := col, hasDel := false } := by unfold clsIn; rw [hC] <;> rfl
 refine ks_codeAny_call_defAt (fd := ksFn "__init__" qual (eA r1 r2) (eB msg p0 p1 p2 p3 p4 p5 p6 p7 q1 q2 q3 q4) eS .none .none doc pm an (.ref cda) ct cc) (body := eB msg p0 p1 p2 p3 p4 p5 p6 p7 q1 q2 q3 q4) (binds := [("self", .ref x), ("part", .str y ty)]) hroom (X _ _ ho) rfl hlim (codeRec_of X hcd) rfl (BindsTo.of_eq (by first | rfl | with_unfolding_all rfl)) (fun z hz => by revert z; show ∀ z ∈ eS.names, z.2 ≠ NameKind.cell; decide) (by first | decide | (intro z hz; simp at hz; rcases hz with rfl | rfl <;> rfl)) (fun h₁ hns k => ?_) rfl rfl rfl
 have X₁ : K.In h₁ := X.keeps k
 have hx₁ := k _ _ hx
 show wpAt (model prog w) _ _ (execs (_ :: _) (ksEnv qual eS s.heap.objs.size fI (.ref cda) cc)) _ _ _
 obtain ⟨pl, he⟩ := hev s.heap.objs.size fI cda cc
 refine ks_wpAt_execs_cons (ks_wpAt_Expr_any (ks_wpAt_MethodCall (pl := pl) (he := he) ?_))
 obtain ⟨oD, hD1, hD2⟩ : ∃ oD, h₁.get? C = some oD ∧ oD.data = .cls { name := nm, bases := bs, mro := .ref C :: bm, ns := N, qualname := q, hasDict := true, slotNames := sn, subclasses := sub, abstract := ab, collection := col, hasDel := false } := ⟨_, X₁ _ _ hC, rfl⟩
 refine ks_wpAt_super_base (env := ksEnv qual eS s.heap.objs.size fI (.ref cda) cc) rfl rfl rfl rfl (X₁ _ _ ho) rfl rfl rfl (X₁ _ _ hcode) rfl hvs hfile T.top ?_
 refine ks_loadName_global rfl rfl (loadGlobal_builtin (env := ksEnv qual eS s.heap.objs.size fI (.ref cda) cc) (hg.keeps k) T.nsu (hb.keeps k) (hbs.trans (by decide +kernel)) ⟨rfl, ?_⟩)
 refine wpAny_loadName_free rfl rfl rfl ⟨_, X₁ _ _ hcell, rfl⟩ ?_
 refine wpAny_loadName_local rfl rfl hns (v := .ref x) rfl ?_
 refine ks_wpAny_isType_cls hD1 hD2 ⟨rfl, ?_⟩
 refine ks_wpAny_call_super hD1 hD2 hx₁ rfl (fun c e => by cases e) (looks_mroIn X₁ T.mroC) (fun h₂ hso k₂ => ?_)
 have X₂ : K.In h₂ := X₁.keeps k₂
 have hx₂ := k₂ _ _ hx₁
 have I₂ : InstAt h₂ x (excO C t0) C none := ⟨hx₂, rfl, rfl, trivial⟩
 have hI : Looks (model prog w) h₂ (isInstance (.ref x) (.type "ValueError")) true := I₂.type.andThen (looks_subIn X₂ T.veC)
 have hsup := T.sup
 unfold ks_superIn at hsup
 rw [hcl] at hsup
 refine kxs_getMethod kxs_ValueError hso (looks_opaque X₂ T.opq) (l₀ := .ref C :: bm) (fun A Q E s k q => wpAny_bind ((looks_clsIn X₂ hcl) A _ E s k (wpAny_pure q))) rfl X₂ hsup hI (ks_ne X₂ I₂ hcl) rfl ?_
 have k₃ : ∀ b o, h₂.get? b = some o → (h₂.push (kxs_mw "ValueError.__init__" x)).get? b = some o := fun b o e => Heap.get?_push_of_some _ e
 have hu : (h₂.push (kxs_mw "ValueError.__init__" x)).get? h₂.objs.size = some (kxs_mw "ValueError.__init__" x) := Heap.get?_push_at rfl rfl
 have hns₃ : (h₂.push (kxs_mw "ValueError.__init__" x)).Ns s.heap.objs.size (fun y' => ([("self", .ref x), ("part", Value.str y ty)] : List (Str × Value)).reverse.lookup y') := (hns.keeps k₂).keeps k₃
 refine kxs_callWith (i := "ValueError.__init__") (x := x) rfl (evalArgs_plain (args_cons (wpAny_BinOp (wpAny_Constant_str (ldX hns₃ (v := .str y ty) rfl (add_str (fun t' tk => args_nil ⟨hu, ?_⟩) (by rw [sizeLine_eq]; omega))))) rfl))
 refine wpAny_call (codeAny_of_tree ?_)
 show wpAny _ _ (callAny (.ref h₂.objs.size) ⟨_, []⟩) _ _ _
 simp only [callAny]
 refine wpAny_bind (wpAny_load hu ?_)
 simp only [kxs_mw, show (Value.type "method-wrapper" == Value.type "method" || Value.type "method-wrapper" == Value.type "builtin_function_or_method" || Value.type "method-wrapper" == Value.type "method-wrapper") = true by decide, if_true]
 refine KFB.if_so (by decide) ?_
 refine wpAny_bind (check_bound_init F.excBase_ValueError.toExcCallFacts (k₃ _ _ (X₂ _ _ hC)) (k₃ _ _ hx₂) rfl ?_)
 refine wpAny_bind (wpAny_pure (wpAny_pure ?_))
 refine ⟨plainId_quiet F.excBase_ValueError.init.plain _, codeAny_builtin F.excBase_ValueError.initEntry ?_⟩
 refine exc_init_tree (cls := .ref C) (t0 := t0) (dv := none) (c2 := .none) (c3 := .none) (b4 := .bool false) (k₃ _ _ hx₂) (by rw [sizeLine_eq]; exact (by decide : 1 ≤ 16777216)) fun h₄ k₄ hx₄ _ => ?_
 show wpAt (model prog w) _ _ (execs (_ :: _) (ksEnv qual eS s.heap.objs.size fI (.ref cda) cc)) _ _ _
 have kk : ∀ b o, b ≠ x → s.heap.get? b = some o → h₄.get? b = some o := fun b o hb e => k₄ b o hb (k₃ b o (k₂ b o (k b o e)))
 have hLx : s.heap.objs.size ≠ x := Nat.ne_of_gt (Heap.lt_size hx)
 have hns₄ : h₄.Ns s.heap.objs.size (fun y' => ([("self", .ref x), ("part", Value.str y ty)] : List (Str × Value)).reverse.lookup y') := by
   obtain ⟨oL, es, ep, hL, r⟩ := hns₃
   exact ⟨oL, es, ep, k₄ _ _ hLx hL, r⟩
 have X₄ : K.In h₄ := fun b o e => k₄ b o (fun z => by
   rw [z, hnx] at e; cases e) (k₃ b o (X₂ _ _ e))
 refine wpAt_of_wpAny (wpAny_execs_cons (plainObj_wpAny_Assign_Attribute ?_))
 refine ldX (v := .str y ty) hns₄ rfl (ldX (v := .ref x) hns₄ rfl ?_)
 refine set_plain X₄ (ox := excO C (h₂.push (kxs_mw "ValueError.__init__" x)).objs.size) (od := none) ⟨hx₄, rfl, rfl, trivial⟩ T.sa ?_
 refine exc_osa X₄ hx₄ hcl (show refsVE (.ref C :: bm) = true from hbm) rfl T.noN (fun h₅ tk₅ dx k₅ dn dne hx₅ hn₅ => ?_)
 show wpAny _ _ (execs _ _) _ _ _
 have z : s.heap.objs.size < h₄.objs.size := hns₄.lt
 exact wpAny_execs_nil (hq h₅ tk₅ dx ⟨fun b o hb e => k₅ b o hb (kk b o hb e), ⟨_, hx₅⟩, Nat.le_of_lt (Nat.lt_of_lt_of_le z dn), dne, hn₅⟩)
structure OwnMade (h h' : Heap) (e C d : Addr) (v : Value) : Prop where
 keep : ∀ b o, h.get? b = some o → h'.get? b = some o
 new : h.objs.size ≤ e
 obj : ∃ oe vs, h'.get? e = some oe ∧ oe.cls = .ref C ∧ oe.dict = some d ∧ oe.data = .fields vs ∧ vs[1]? = some .none
 dbig : h.objs.size ≤ d
 dne : d ≠ e
 ns : h'.Ns1 d (fun y => if y = "part" then some v else none)
theorem one_size (v : Value) : [v].length ≤ sizeLine := by
 rw [sizeLine_eq]
 exact (by decide : 1 ≤ 16777216)
theorem err_made (T : ErrTxt prog K mg cn qual st C fI) {y : Str} {ty : Tok} (X : K.In s.heap) (hg : s.heap.Ns mainGlobals mg) (hb : s.heap.Ns builtinsNs mb) (hbs : mb "super" = bootBuiltins "super") (hlim : s.heap.NoLimit) (hy : y.length ≤ 1000000) (hroom : A.depth + 1 < recursionLimit)
   (hq : ∀ h' tk e d, OwnMade s.heap h' e C d (.str y ty) → R (.ok (.ret (.ref e))) { s with heap := h', toks := tk }) :
   codeAny (model prog w) A (.call (.ref C) ⟨[.str y ty], []⟩) R s := by
 obtain ⟨nm, q, N, bs, bm, sn, sub, ab, col, dd, k0, k1, k2, k3, k5, hC, hbm⟩ := T.cls
 obtain ⟨hp, g, dr, tk, os⟩ := s
 have k : ∀ b o, hp.get? b = some o → ((hp.push (kdv_tup [.str y ty])).push (excO C hp.objs.size)).get? b = some o := fun b o e => Heap.get?_push_of_some _ (Heap.get?_push_of_some _ e)
 have hget : ((hp.push (kdv_tup [.str y ty])).push (excO C hp.objs.size)).get? (hp.objs.size + 1) = some (excO C hp.objs.size) := by heap_get
 have hnx : K.lookup (hp.objs.size + 1) = none := by
   cases e : K.lookup (hp.objs.size + 1) with
   | none => rfl
   | some o =>
     have z : hp.get? (hp.objs.size + 1) = some o := X _ _ e
     exact absurd (Nat.lt_of_succ_lt (Heap.lt_size z)) (Nat.lt_irrefl _)
 refine call_own F.excBase_ValueError (fun X => refsVE_contains X bm hbm) (X _ _ hC) (looks_findIn X T.iC) (fun self => bind_fn X self T.tC) (one_size _) ?_
 refine err_init (s := ⟨(hp.push (kdv_tup [.str y ty])).push (excO C hp.objs.size), g, dr, tk, os⟩) T (X.keeps k) (hg.keeps k) (hb.keeps k) hbs (hlim.keeps k) hget hnx hy ?_ fun h' tk' dx ⟨k', ⟨t1, hx⟩, dn, dne, hns⟩ => ?_
 · show A.depth + 1 < recursionLimit
   exact hroom
 · have old : ∀ b o, hp.get? b = some o → h'.get? b = some o := fun b o e => k' b o (Nat.ne_of_lt (Nat.lt_succ_of_lt (Heap.lt_size e))) (k b o e)
   have z : hp.objs.size + 1 + 1 ≤ dx := by
     first
       | (simpa only [Heap.size_push] using dn)
       | exact dn
       | (have q := dn; rw [Heap.size_push, Heap.size_push] at q; exact q)
   exact ⟨rfl, hq h' tk' (hp.objs.size + 1) dx ⟨old, Nat.le_succ _, ⟨_, _, hx, rfl, rfl, rfl, rfl⟩, Nat.le_trans (Nat.le_trans (Nat.le_succ _) (Nat.le_succ _)) z, dne, hns⟩⟩
end
end ErrX
end PySem
namespace L2
open PySem PySem.Spec PyProof.Rows
section
variable {X : Cx} {C fI : Addr} {cn qual : Str} {st : Stmt}
end
end L2
namespace L2
open PySem PySem.Spec PyProof.Rows
section
variable {X : Cx} {CX : CXT} {k n : Nat} {f C : Addr} {fd : FuncData} {ps ks : List Str} {sp : Sp} {E : St → XK} {x : Str} {p pos : Pos} {e : Expr} {es : List Expr} {kws : List Keyword} {t tk : TA} {g : List Value → List Value → List Value} {gV : List V → List V → List V} {ds : List Value} {dvs : List V}
end
structure XisC (K : PySem.W.Frag) (C : Addr) : Prop where
 cl : (PySem.W.clsIn K C).isSome = true
 ga : PySem.W.findIn K (.ref C) "__getattribute__" = some (some (.builtin "BaseException.__getattribute__"))
 gg : PySem.W.findIn K (.ref C) "__getattr__" = some none
 ex : PySem.W.subIn K (.ref C) (.type "BaseException") = some true
 ca : PySem.W.findIn K (.ref C) "__class__" = some (some (.builtin "object.__class__"))
 gt : PySem.W.specialIn K (.builtin "object.__class__") "__get__" = some (some (.builtin "getset_descriptor.__get__"))
 tk : PySem.W.takesIn K (.builtin "object.__class__") = some true
 ob : PySem.W.mroIn K C (.type "object") = some true
section
variable {X : Cx} {a C : Addr} {oe : Obj} {cls : Value} {d : Option Addr} {pn : List (Addr × Obj)} {K : PySem.W.Frag}
def rIsEd (K : PySem.W.Frag) (C a : Addr) (cls : Value) (d : Option Addr) : List V → Hp → VK → Prop := fun xs H Q => ∃ (dd : Addr) (fs : List (Str × V)) (c : V) (u : Value) (b : Bool), xs = [.ref a, c] ∧ cls = .ref C ∧ d = some dd ∧ H dd = some (.xd fs) ∧ ClsV c u ∧ PySem.W.kitOne K (.ref C) u = some b ∧ Q (.bl b) H
def rIsEt (K : PySem.W.Frag) (C a : Addr) (cls : Value) (d : Option Addr) : List V → Hp → VK → Prop := fun xs H Q => ∃ (dd : Addr) (fs : List (Str × V)) (tp : Addr) (cs : List V) (us : List Value) (b : Bool), xs = [.ref a, .ref tp] ∧ cls = .ref C ∧ d = some dd ∧ H dd = some (.xd fs) ∧ H tp = some (.tup cs) ∧
 Paired ClsV cs us ∧ PySem.W.kitAny K (.ref C) us = some b ∧ Q (.bl b) H
theorem exc_inst {pins : List (Addr × Obj)} {σ : St} {H : Hp} {s : Shared} {dd : Addr} {fs : List (Str × V)} (hz : Zc (.ref C) (some dd) oe) (hf : ∃ vs, oe.data = .fields vs) (I : Inv (X.suite a ((a, oe) :: pn)) pins σ H s) (ea : H dd = some (.xd fs)) :
   ∃ od, PySem.W.InstAt s.heap a oe C (some od) := by
 obtain ⟨ha, _⟩ := I.pin (a, oe) (List.mem_append_left _ List.mem_cons_self)
 obtain ⟨vs, hd⟩ := hf
 have hx : ObjOk X.prog X.w H s.heap dd (.xd fs) := I.hok dd _ ea
 obtain ⟨mA, hns, hr⟩ := hx
 obtain ⟨od, ho, hl⟩ := lookIn_ns hns
 exact ⟨od, ha, hz.1, by unfold PySem.W.notCls; rw [hd] <;> rfl, by rw [hz.2]; exact ho⟩
theorem call_isEd (T : XisC K C) (hz : Zc cls d oe) (hf : ∃ vs, oe.data = .fields vs) (eK : X.K = K := by rfl) : CallR (X.suite a ((a, oe) :: pn)) (.builtin "isinstance") (rIsEd K C a cls d) := by
 subst eK
 intro pins s σ H xs us Q I r h
 obtain ⟨dd, fs, c, u, b, rfl, rfl, rfl, ea, k, e, q⟩ := h
 obtain ⟨u1, u2, rfl, r1, r2⟩ := vals2 r
 have e2 := k.eq r2
 subst e2
 obtain rfl : u1 = Value.ref a := r1
 obtain ⟨od, J⟩ := exc_inst hz hf I ea
 exact PySem.W.kia_one (PySem.W.kitx_exc T.cl T.ga T.gg T.ex T.ca T.gt T.tk T.ob) I.kIn J e (fun z => nomatch z) fun tk => ⟨.bl b, H, I.tok tk, rfl, q⟩
theorem call_isEt (T : XisC K C) (hz : Zc cls d oe) (hf : ∃ vs, oe.data = .fields vs) (eK : X.K = K := by rfl) : CallR (X.suite a ((a, oe) :: pn)) (.builtin "isinstance") (rIsEt K C a cls d) := by
 subst eK
 intro pins s σ H xs us Q I r h
 obtain ⟨dd, fs, tp, cs, ws, b, rfl, rfl, rfl, ea, hT, k, e, q⟩ := h
 obtain ⟨u1, u2, rfl, r1, r2⟩ := vals2 r
 cases (show u2 = Value.ref tp from r2)
 obtain rfl : u1 = Value.ref a := r1
 obtain ⟨od, J⟩ := exc_inst hz hf I ea
 obtain ⟨_, its, rv, o, h1, h2, n, h3⟩ := (show ObjOk X.prog X.w H s.heap tp (.tup cs) from I.hok tp _ hT)
 have e3 := ClsV.all k rv
 subst e3
 obtain ⟨oc, od', dt, sl⟩ := o
 simp only at h2 h3
 subst h2 h3
 exact PySem.W.kia_tup (PySem.W.kitx_exc T.cl T.ga T.gg T.ex T.ca T.gt T.tk T.ob) I.kIn J h1 e (fun z => nomatch z) fun tk => ⟨.bl b, H, I.tok tk, rfl, q⟩
end
end L2
namespace G
open PySem PySem.Spec PyProof.Rows L2
section
variable {K : PySem.W.Frag} {σ : L2.St} {H : Hp} {Q : VK} {C : Addr} {D : Ends} {t2 : TS} {te : TE} {a dd : Addr} {fs : List (Str × V)}
theorem w_callS {sp : Sp} {E : L2.St → XK} {t : TA} (h : t σ H fun vs H1 => sp vs H1 Q (E σ)) : tCallS sp E t σ H Q := h
theorem q_try {t : TS} (h : t { D with nx := t2 D } σ H) : tSeq t t2 D σ H := h
theorem w_exc {c : Value} {i : Nat} {ts : Addr → Value → Option Addr → TS} {Wout : WX} {d : Option Addr} (e : PySem.W.exmOne K (.ref C) c = some true)
   (k : ∀ a, H a = none → ts a (.ref C) d { nx := fun σ' H' => D.nx (σ'.set i none) H', rt := D.rt, bk := fun σ' H' => D.bk (σ'.set i none) H', ct := fun σ' H' => D.ct (σ'.set i none) H' } (σ.set i (some (.ref a))) H) : WE (wAs K c i ts Wout D) σ (.ref C) d H :=
 ⟨true, e, fun _ a na => k a na, fun z => nomatch z⟩
theorem val_isE {c : V} {u : Value} {b : Bool} (h : Val te σ H (.ref a)) (hd : H dd = some (.xd fs)) (k : ClsV c u) (e : PySem.W.kitOne K (.ref C) u = some b) : Val (tCB (rIsEd K C a (.ref C) (some dd)) (tCons te (tCons (tC c) tNil))) σ H (.bl b) := fun Q q =>
 h _ ⟨dd, fs, c, u, b, rfl, rfl, rfl, hd, k, e, q⟩
theorem q_isT {ta : TA} {cs : List V} {us : List Value} {t1 t3 : TS} (h : Val te σ H (.ref a)) (hd : H dd = some (.xd fs)) (hv : VaA ta σ H cs) (k : Paired ClsV cs us) (e : PySem.W.kitAny K (.ref C) us = some false) (hl : cs.length ≤ 100)
   (kk : ∀ H', Chg [] H H' → H' dd = some (.xd fs) → t3 { D with nx := t2 D } σ H') : tSeq (tIfS (tB (tCB (rIsEt K C a (.ref C) (some dd)) (tCons te (tCons (tTup ta) tNil)))) t1 t3) t2 D σ H := by
 refine h _ (hv _ ⟨by rw [sizeLine_eq]; omega, fun p hp => ?_⟩)
 have hne : dd ≠ p := fun z => by rw [z, hp] at hd; cases hd
 have hd' : (upd H p (.tup cs)) dd = some (.xd fs) := by rw [upd_ne hne]; exact hd
 refine ⟨dd, fs, p, cs, us, false, rfl, rfl, rfl, hd', upd_same, k, e, ?_⟩
 exact ⟨false, rfl, kk _ (Chg.lay hp trivial) hd'⟩
theorem cp_cons {cs : List V} {us : List Value} {A : Addr} (h : Paired ClsV cs us) : Paired ClsV (.ref A :: cs) (.ref A :: us) := .cons (.own A) h
end
end G
namespace G
open PySem PySem.Spec PyProof.Rows L2
abbrev FnN : Type := Option (Str × Str × Arguments × FuncBody × Scope × Addr × List Str × Addr)
def fnN (K : PySem.W.Frag) (p : Str × Option Str) : FnN := match K.lookup (He.fAd K p) with
 | some ⟨_, _, .func fd, _⟩ => some (fd.name, fd.qualname, fd.params, fd.body, fd.scope, fd.globals, fd.closure.map (·.1), fd.builtins)
 | _ => none
structure ErrD where
 x : Str
 qual : Str
 st : Stmt
def ErrD.val (d : ErrD) : FnN := some ("__init__", d.qual, defArgs d.st, .stmts (defBody d.st), defScope d.st, mainGlobals, ["__class__"], builtinsNs)
def excB (K : PySem.W.Frag) (C : Addr) : Bool := match K.lookup C with
 | some ⟨.type c, _, .cls cd, sl⟩ => decide (c = "type") && (match cd.mro with
   | v :: bm => decide (v = .ref C) && refsVEb bm
   | _ => false) && cd.hasDict && !cd.hasDel && (match sl.toList with
   | [_, _, _, _, some (.builtin i), _] => decide (i = "ValueError.__new__")
   | _ => false)
 | _ => false
where refsVEb (l : List Value) : Bool := PySem.HandSPX.refsVE l
theorem excB_ok {K : PySem.W.Frag} {C : Addr} (h : excB K C = true) : ∃ nm q N bs bm sn sub ab col dd k0 k1 k2 k3 k5, K.lookup C = some (excClassObj nm q C N bs bm true sn sub ab col dd k0 k1 k2 k3 k5 "ValueError.__new__") ∧ PySem.HandSPX.refsVE bm = true := by
 unfold excB at h
 cases e : K.lookup C with
 | none => rw [e] at h; cases h
 | some o =>
   obtain ⟨oc, od, dt, sl⟩ := o
   rw [e] at h
   cases oc with
   | type c =>
     cases dt with
     | cls cd =>
       obtain ⟨h, h5⟩ := He.ba h
       obtain ⟨h, h4⟩ := He.ba h
       obtain ⟨h, h3⟩ := He.ba h
       obtain ⟨h1, h2⟩ := He.ba h
       obtain ⟨nm, bs, mro, ns, qn, hdc, sn, sub, ab, col, hdl⟩ := cd
       have e1 : c = "type" := of_decide_eq_true h1
       subst e1
       cases mro with
       | nil => cases h2
       | cons v bm =>
         obtain ⟨h6, h7⟩ := He.ba h2
         have e6 := of_decide_eq_true h6
         subst e6
         have e3 : hdc = true := h3
         subst e3
         have e4 : hdl = false := by cases hdl with
           | false => rfl
           | true => cases h4
         subst e4
         obtain ⟨sl⟩ := sl
         rcases sl with _ | ⟨k0, _ | ⟨k1, _ | ⟨k2, _ | ⟨k3, _ | ⟨k4, _ | ⟨k5, _ | ⟨k6, _⟩⟩⟩⟩⟩⟩⟩
         all_goals try (cases h5; done)
         all_goals try (cases k4 with | none => cases h5 | some v4 => cases v4 <;> cases h5)
         cases k4 with
         | none => cases h5
         | some v4 =>
           cases v4 with
           | builtin i =>
             have e5 : i = "ValueError.__new__" := of_decide_eq_true h5
             subst e5
             exact ⟨nm, qn, ns, bs, bm, sn, sub, ab, col, od, k0, k1, k2, k3, k5, rfl, h7⟩
           | _ => cases h5
     | _ => cases h
   | _ => cases dt <;> cases h
def valB (v w : Option (Option Value)) : Bool := decide (v = w)
def errC (K : PySem.W.Frag) (C fI : Addr) : Bool :=
 excB K C && (valB (PySem.W.findIn K (.ref C) "__setattr__") (some (some (.builtin "object.__setattr__"))) && (valB (PySem.W.findIn K (.ref C) "__getattribute__") (some (some (.builtin "BaseException.__getattribute__"))) &&
 (valB (PySem.W.findIn K (.ref C) "__getattr__") (some none) && (valB (PySem.W.findIn K (.ref C) "part") (some none) && (valB (PySem.W.findIn K (.ref C) "__init__") (some (some (.ref fI))) &&
 (decide (PySem.W.typeIn K (.ref fI) = some (.type "function")) && (PySem.W.keepIn K (.ref C) && (decide (PySem.W.subIn K (.ref C) (.type "BaseException") = some true) && (decide (PySem.W.subIn K (.ref C) (.type "ValueError") = some true) &&
 (decide (PySem.W.typeIn K (.ref C) = some (.type "type")) && (PySem.W.hasDictIn K C && (decide (PySem.W.mroIn K C (.ref C) = some true) && (valB (PySem.W.ks_superIn K C C "__init__") (some (some (.builtin "ValueError.__init__"))) &&
 (valB (PySem.W.nsIn K cStatics "thirdparty.any") (some none) && ((PySem.W.clsIn K C).isSome && (valB (PySem.W.findIn K (.ref C) "__class__") (some (some (.builtin "object.__class__"))) &&
 (valB (PySem.W.specialIn K (.builtin "object.__class__") "__get__") (some (some (.builtin "getset_descriptor.__get__"))) && (decide (PySem.W.takesIn K (.builtin "object.__class__") = some true) && decide (PySem.W.mroIn K C (.type "object") = some true)))))))))))))))))))
def fileB (file : Str) : Option Value → Bool
 | some (.str f _) => file == f
 | _ => false
def errF (K : PySem.W.Frag) (C fI : Addr) (qual file : Str) : Bool := match K.lookup fI with
 | some ⟨_, _, .func fd, _⟩ => (match fd.defaults, fd.kwdefaults, fd.closure, fd.code with
   | .none, .none, [(_, cc)], .ref cda => PySem.W.codeIn K (.ref cda) qual && ((match K.lookup cda with
     | some ⟨_, _, .fields vs, _⟩ => fileB file vs[2]?
     | _ => false) && (match K.lookup cc with
     | some ⟨_, _, .cell (some v), _⟩ => decide (v = .ref C)
     | _ => false))
   | _, _, _, _ => false)
 | _ => false
def ErrD.ok (K : PySem.W.Frag) (file : Str) (d : ErrD) : Bool := errC K (He.ga K d.x) (He.fAd K (d.x, some "__init__")) && errF K (He.ga K d.x) (He.fAd K (d.x, some "__init__")) d.qual file
theorem errF_ok {K : PySem.W.Frag} {C : Addr} {p : Str × Option Str} {file : Str} {d : ErrD} (e : fnN K p = d.val) (h : errF K C (He.fAd K p) d.qual file = true) :
   ∃ (oc : Value) (od : Option Addr) (doc pm : Value) (an : Option Addr) (cda : Addr) (ct : Value) (cc : Addr) (osl : Array (Option Value)),
   K.lookup (He.fAd K p) = some ⟨oc, od, .func (PySem.W.ksFn "__init__" d.qual (L2.defArgs d.st) (L2.defBody d.st) (L2.defScope d.st) .none .none doc pm an (.ref cda) ct cc), osl⟩ ∧ PySem.W.codeIn K (.ref cda) d.qual = true ∧
   (∃ (ccl : Value) (cdd : Option Addr) (vs : Array Value) (ccs : Array (Option Value)) (file' : Str) (tf : Tok), K.lookup cda = some ⟨ccl, cdd, .fields vs, ccs⟩ ∧ vs[2]? = some (.str file' tf) ∧ (file == file') = true) ∧
   ∃ (cl : Value) (cld : Option Addr) (csl : Array (Option Value)), K.lookup cc = some ⟨cl, cld, .cell (some (.ref C)), csl⟩ := by
 unfold errF at h
 unfold fnN at e
 cases q : K.lookup (He.fAd K p) with
 | none => rw [q] at h; cases h
 | some o =>
   obtain ⟨oc, od, dt, osl⟩ := o
   rw [q] at h e
   cases dt with
   | func fd =>
     obtain ⟨n1, n2, n3, n4, n5, n6, n7, n8, n9, n10, n11, n12, n13, n14, n15⟩ := fd
     have e2 : (some (n1, n2, n3, n4, n5, n6, n7.map (·.1), n15) : FnN) = some (("__init__" : Str), d.qual, defArgs d.st, FuncBody.stmts (defBody d.st), defScope d.st, mainGlobals, [("__class__" : Str)], builtinsNs) := e
     simp only [Option.some.injEq, Prod.mk.injEq] at e2
     obtain ⟨h1, h2, h3, h4, h5, h6, h7, h8⟩ := e2
     subst h1 h2 h3 h4 h5 h6 h8
     cases n8 with
     | none =>
       cases n9 with
       | none =>
         rcases n7 with _ | ⟨⟨nc, cc⟩, _ | ⟨_, _⟩⟩
         · cases h
         · cases n13 with
           | ref cda =>
             have en : nc = ("__class__" : Str) := by
               have z : [nc] = [("__class__" : Str)] := h7
               exact (List.cons.inj z).1
             subst en
             obtain ⟨c1, c2⟩ := He.ba h
             obtain ⟨c3, c4⟩ := He.ba c2
             refine ⟨oc, od, n10, n11, n12, cda, n14, cc, osl, rfl, c1, ?_, ?_⟩
             · cases q2 : K.lookup cda with
               | none => rw [q2] at c3; cases c3
               | some o2 =>
                 obtain ⟨a1, a2, a3, a4⟩ := o2
                 rw [q2] at c3
                 cases a3 with
                 | fields vs =>
                   have c5 : fileB file vs[2]? = true := c3
                   cases q3 : vs[2]? with
                   | none => rw [q3] at c5; cases c5
                   | some v =>
                     rw [q3] at c5
                     cases v with
                     | str f t => exact ⟨a1, a2, vs, a4, f, t, rfl, q3, c5⟩
                     | _ => cases c5
                 | _ => cases c3
             · cases q2 : K.lookup cc with
               | none => rw [q2] at c4; cases c4
               | some o2 =>
                 obtain ⟨a1, a2, a3, a4⟩ := o2
                 rw [q2] at c4
                 cases a3 with
                 | cell v =>
                   cases v with
                   | none => cases c4
                   | some v =>
                     have z : v = .ref C := of_decide_eq_true c4
                     subst z
                     exact ⟨a1, a2, a4, rfl⟩
                 | _ => cases c4
           | _ => cases h
         · cases h
       | _ => cases h
     | _ => cases n9 <;> cases h
   | _ => cases h
structure ErrK (K : PySem.W.Frag) (C : Addr) : Prop where
 xf : XfC K C
 xi : XisC K C
 np : PySem.W.findIn K (.ref C) "part" = some none
 ty : PySem.W.typeIn K (.ref C) = some (.type "type")
structure SaysX (fa : List He.Fa) (fn : List He.DefD) (ex : PySem.W.Frag → Bool) (file : Str) (er : List ErrD) (K : PySem.W.Frag) : Prop where
 d : He.SaysD fa fn K
 e : ex K = true
 a : er.all (fun d => d.ok K file) = true
 m : (er.map fun d => fnN K (d.x, some "__init__")) = er.map ErrD.val
theorem SaysX.err {fa : List He.Fa} {fn : List He.DefD} {ex : PySem.W.Frag → Bool} {file : Str} {er : List ErrD} {K : PySem.W.Frag} (c : SaysX fa fn ex file er K) (i : Nat) {d : ErrD} (h : er[i]? = some d := by rfl) : fnN K (d.x, some "__init__") = d.val ∧ d.ok K file = true := by
 refine ⟨?_, List.all_eq_true.mp c.a d (List.mem_of_getElem? h)⟩
 have e2 : (er.map fun d => fnN K (d.x, some "__init__"))[i]? = (er.map ErrD.val)[i]? := by rw [c.m]
 rw [List.getElem?_map, List.getElem?_map, h] at e2
 exact Option.some.inj e2
end G
namespace G
open PySem PySem.Spec PyProof.Rows L2
section
variable {K : PySem.W.Frag} {H : Hp} {F : List Addr} {v : V}
variable {x y : Option (List Nat)} {u : V} {F1 F2 : List Addr} {Q : VK}
end
end G
namespace L2
open PySem PySem.Spec PyProof.Rows
section
variable {X : Cx} {e : Expr} {te : TE} {pos p1 p2 : Pos} {cs : List MatchCase} {tm tr : Str → TS} {tb : TS} {body : List Stmt} {c : Str} {j : Option Str}
end
end L2
namespace G
open PySem PySem.Spec PyProof.Rows L2
section
variable {K : PySem.W.Frag} {σ : L2.St} {H : Hp} {F : List Addr} {v : V} {Q : VK} {D : Ends} {t2 tb : TS} {te : TE} {tm tr : Str → TS} {α β : Type} {τ : Ty α} {υ : Ty β}
def ySum (τ : Ty α) (υ : Ty β) : Ty (α ⊕ β) where
 rep K H F v d := match d with
   | .inl a => τ.rep K H F v a
   | .inr b => υ.rep K H F v b
 keep {K H H' F v d} h k := by
   cases d with
   | inl a => exact τ.keep h k
   | inr b => exact υ.keep h k
 dom {K H F v d} h b m := by
   cases d with
   | inl a => exact τ.dom h b m
   | inr c => exact υ.dom h b m
theorem sum_l {a : α} (r : τ.rep K H F v a) : (ySum τ υ).rep K H F v (.inl a) := r
theorem sum_r {b : β} (r : υ.rep K H F v b) : (ySum τ υ).rep K H F v (.inr b) := r
theorem sum_L {d : α ⊕ β} {a : α} (r : (ySum τ υ).rep K H F v d) (h : Mi.asL d = some a) : τ.rep K H F v a := by
 cases d with
 | inl x => cases h; exact r
 | inr x => cases h
theorem sum_R {d : α ⊕ β} {b : β} (r : (ySum τ υ).rep K H F v d) (h : Mi.asR d = some b) : υ.rep K H F v b := by
 cases d with
 | inl x => cases h
 | inr x => cases h; exact r
theorem e_tupl {vs : List V} {xs : List α} (z : vs.length ≤ Mi.big) (r : Paired (fun u x => τ.rep K H [] u x) vs xs) (k : ∀ p H', H p = none → Chg [] H H' → (yTupL τ).rep K H' [] (.ref p) xs → Q (.ref p) H') : TupG vs H Q :=
 ⟨sz z, fun p np => k p _ np (Chg.lay np trivial) ⟨p, vs, rfl, rfl, .inl (.inl upd_same), Paired.mapP r fun u x q => τ.keep q fun b o e _ => by rw [upd_ne (ne_of_none e np)]; exact e⟩⟩
end
end G
namespace L2
open PySem PySem.Spec PyProof.Rows
section
variable {X : Cx} {cs : List MatchCase} {tr : Str → TS} {tb : TS} {body : List Stmt} {c d : Str} {p1 p2 p3 p4 p5 : Pos}
end
end L2
namespace G
open PySem PySem.Spec PyProof.Rows L2
section
variable {K : PySem.W.Frag} {σ : L2.St} {H : Hp} {F F1 F2 : List Addr} {v u : V} {Q : VK} {te ta tb : TE} {α β : Type} {τ : Ty α} {υ : Ty β}
theorem toS_int (i : Int) : ((toString i : String) : Str) = toS (Mi.sInt i) := by
 show Str.ofString (toString i) = toS (Mi.sInt i)
 rw [Str.ofString_eq_toList]; rfl
theorem log_ok {i : Int} (h : i.natAbs < 10 ^ 15) : i.natAbs.log2 < 1920 := by
 by_cases h0 : i.natAbs = 0
 · rw [h0]; decide
 · exact Nat.lt_of_lt_of_le ((Nat.log2_lt h0).mpr (Nat.lt_of_lt_of_le h (by decide : 10 ^ 15 ≤ 2 ^ 50))) (by decide)
theorem sOfI_ok {i : Int} {y : List Nat} (h : Mi.sOfI i = some y) : i.natAbs.log2 < 1920 ∧ y = Mi.sInt i := by
 unfold Mi.sOfI at h
 split at h
 · rename_i hl
   exact ⟨log_ok hl, (Option.some.inj h).symm⟩
 · cases h
def rStrI : List V → Hp → VK → Prop := fun xs H Q => ∃ i, xs = [.int i] ∧ i.natAbs.log2 < 1920 ∧ Q (.str (toString i)) H
theorem cl_strI {X : Cx} : CallR X (.type "str") rStrI := call_str_int
theorem w_strI {i : Int} {y : List Nat} (h : Mi.sOfI i = some y) (k : Q (.str (toS y)) H) : rStrI [.int i] H Q := by
 obtain ⟨h1, rfl⟩ := sOfI_ok h
 exact ⟨i, rfl, h1, by rw [toS_int]; exact k⟩
theorem val_strI {i : Int} {y : List Nat} (h : Mi.sOfI i = some y) (ha : Val ta σ H (.int i)) : Val (tCB rStrI (tCons ta tNil)) σ H (.str (toS y)) := fun Q q => ha _ (w_strI h q)
theorem w_star {tr : TA} {Qs : List V → Hp → Prop} (h : te σ H fun x H1 => ∃ p xs, x = V.ref p ∧ (SqT K H1 p xs ∨ SqL K H1 p xs) ∧ tr σ H1 fun ys H2 => Qs (xs ++ ys) H2) : StX.tStar K te tr σ H Qs := h
theorem val_eqv {b c : Bool} (e : b = c) (h : Val ta σ H (.bl b)) : Val ta σ H (.bl c) := e ▸ h
end
end G
namespace L2
open PySem PySem.Spec PyProof.Rows
structure PMt (X : Cx) (cs : List MatchCase) (t : V → TS) : Prop where
 run : ∀ (pins : List (Addr × Obj)) (s : Shared) (σ : St) (H : Hp) (D : Ends) (x : V) (u : Value) (first : Bool), Inv X pins σ H s → RelV x u → t x D σ H → wpAny (model X.prog X.w) X.A (matchCases cs X.env u first) (SP X pins D) X.xe s
def putAll : St → List Nat → List V → St
 | σ, i :: is, y :: ys => putAll (σ.set i (some y)) is ys
 | σ, _, _ => σ
section
variable {X : Cx} {cs : List MatchCase} {tr : V → TS} {tb : TS} {body : List Stmt} {c : Str} {p1 p2 p3 pos : Pos} {e : Expr} {te : TE} {tm : V → TS}
theorem mt_nil : PMt X [] (fun _ => tNext) := ⟨fun _ _ σ H _ _ _ _ I _ h => wpAny_pure ⟨σ, H, I, h⟩⟩
theorem pr_len {α β : Type} {R : α → β → Prop} {l : List α} {m : List β} (h : Paired R l m) : l.length = m.length := by
 induction h with
 | nil => rfl
 | cons _ _ ih => rw [List.length_cons, List.length_cons, ih]
theorem put_all {pins : List (Addr × Obj)} {H : Hp} {E : Value → Shared → Prop} (hN : X.N.Nodup) {ns : List (Str × Pos)} {is : List Nat} (hp : Paired (fun q i => X.N[i]? = some q.1 ∧ X.env.scope.names.lookup q.1 = some .local) ns is) :
   ∀ {ys : List V} {us : List Value} {σ : St} {s : Shared} {Q : Unit → Shared → Prop}, Vals ys us → ns.length = us.length → Inv X pins σ H s →
   (∀ s', Inv X pins (putAll σ is ys) H s' → Q () s') → wpAny (model X.prog X.w) X.A (assignInOrder (((ns.map (·.1)).zip us).map fun (n, _) => bindName X.env n) (((ns.map (·.1)).zip us).map (·.2))) Q E s := by
 induction hp with
 | nil =>
   intro ys us σ s Q rv hl I k
   have hu : us = [] := List.length_eq_zero_iff.mp hl.symm
   subst hu
   have hy : ys = [] := List.length_eq_zero_iff.mp rv.length
   subst hy
   exact assignInOrder_nil (k s I)
 | cons h1 _ ih =>
   intro ys us σ s Q rv hl I k
   cases rv with
   | nil => cases hl
   | cons r rs =>
     refine assignInOrder_cons (wpAny_bindName (store_ok I hN h1.1 (.inl h1.2) r (fun s1 I1 => ?_) (.inr h1.2)))
     exact ih rs (by simpa using hl) I1 k
def tMatchT (te : TE) (tm : V → TS) : TS := fun D σ H => te σ H fun x H1 => tm x D σ H1
theorem ps_matchT (he : PE X e te) (hm : PMt X cs tm) : PS X (.Match e cs pos) (tMatchT te tm) := by
 refine ⟨fun pins s σ H D I h => ?_⟩
 show wpAny _ _ (do standAt pos; let v ← eval e X.env; matchCases cs X.env v true) _ _ _
 refine wpAny_bind (wpAny_standAt (wpAny_bind (thn (he.run pins s σ H _ I h) fun u s1 hh => ?_)))
 obtain ⟨x, H1, I1, rx, q⟩ := hh
 exact hm.run pins s1 σ H1 D x u true I1 rx q
end
end L2
namespace G
open PySem PySem.Spec PyProof.Rows L2
section
variable {K : PySem.W.Frag} {σ : L2.St} {H : Hp} {F F1 F2 : List Addr} {v u : V} {Q : VK} {D : Ends} {t2 tb : TS} {te ta tc : TE} {tm tr : V → TS} {α : Type} {τ : Ty α}
abbrev y5 : Ty Mi.U5 := ySum yInt (ySum yStr (ySum yBool (ySum (yTupL yInt) (yTupL yBool))))
abbrev y2 : Ty (Int ⊕ Bool) := ySum yInt yBool
theorem s5_cases {d : Mi.U5} (r : y5.rep K H F v d) : (∃ i, d = .inl i ∧ v = .int i) ∨ (∃ s, d = .inr (.inl s) ∧ v = .str (toS s)) ∨ (∃ b, d = .inr (.inr (.inl b)) ∧ v = .bl b) ∨ (∃ xs, d = .inr (.inr (.inr (.inl xs))) ∧ (yTupL yInt).rep K H F v xs) ∨ ∃ xs, d = .inr (.inr (.inr (.inr xs))) ∧ (yTupL yBool).rep K H F v xs := by
 rcases d with i | s | b | xs | xs
 · obtain ⟨_, e⟩ := (show yInt.rep K H F v i from r)
   exact .inl ⟨i, rfl, e⟩
 · obtain ⟨_, e⟩ := (show yStr.rep K H F v s from r)
   exact .inr (.inl ⟨s, rfl, e⟩)
 · obtain ⟨_, e⟩ := (show yBool.rep K H F v b from r)
   exact .inr (.inr (.inl ⟨b, rfl, e⟩))
 · exact .inr (.inr (.inr (.inl ⟨xs, rfl, r⟩)))
 · exact .inr (.inr (.inr (.inr ⟨xs, rfl, r⟩)))
theorem s2_cases {d : Int ⊕ Bool} (r : y2.rep K H F v d) : (∃ i, d = .inl i ∧ v = .int i) ∨ ∃ b, d = .inr b ∧ v = .bl b := by
 rcases d with i | b
 · obtain ⟨_, e⟩ := (show yInt.rep K H F v i from r)
   exact .inl ⟨i, rfl, e⟩
 · obtain ⟨_, e⟩ := (show yBool.rep K H F v b from r)
   exact .inr ⟨b, rfl, e⟩
theorem nn_5 {d : Mi.U5} (r : y5.rep K H F v d) : v ≠ .non := by
 rcases s5_cases r with ⟨_, _, rfl⟩ | ⟨_, _, rfl⟩ | ⟨_, _, rfl⟩ | ⟨_, _, r⟩ | ⟨_, _, r⟩
 · exact fun z => nomatch z
 · exact fun z => nomatch z
 · exact fun z => nomatch z
 · exact nn_tupl r
 · exact nn_tupl r
theorem nn_2 {d : Int ⊕ Bool} (r : y2.rep K H F v d) : v ≠ .non := by
 rcases s2_cases r with ⟨_, _, rfl⟩ | ⟨_, _, rfl⟩ <;> exact fun z => nomatch z
theorem val_isi5 {m : String} {b1 b2 b3 b4 : Bool} {d : Mi.U5} (r : y5.rep K H F v d) (ha : Val ta σ H v) (h1 : kitB "int" m = some b1) (h2 : kitB "str" m = some b2) (h3 : kitB "bool" m = some b3) (h4 : kitB "tuple" m = some b4) :
   Val (tCB (rIsi K) (tCons ta (tCons (tC (.ty m)) tNil))) σ H (.bl (Mi.isi5 b1 b2 b3 b4 d)) := by
 rcases s5_cases r with ⟨_, rfl, rfl⟩ | ⟨_, rfl, rfl⟩ | ⟨_, rfl, rfl⟩ | ⟨_, rfl, r⟩ | ⟨_, rfl, r⟩
 · exact val_isi ha ty_int h1
 · exact val_isi ha ty_str h2
 · exact val_isi ha ty_bl h3
 · exact val_isi ha (ty_tupl r) h4
 · exact val_isi ha (ty_tupl r) h4
theorem val_isi2 {m : String} {b1 b2 : Bool} {d : Int ⊕ Bool} (r : y2.rep K H F v d) (ha : Val ta σ H v) (h1 : kitB "int" m = some b1) (h2 : kitB "bool" m = some b2) : Val (tCB (rIsi K) (tCons ta (tCons (tC (.ty m)) tNil))) σ H (.bl (Mi.isi2 b1 b2 d)) := by
 rcases s2_cases r with ⟨_, rfl, rfl⟩ | ⟨_, rfl, rfl⟩
 · exact val_isi ha ty_int h1
 · exact val_isi ha ty_bl h2
theorem isi5_ff (d : Mi.U5) : Mi.isi5 false false false false d = false := by rcases d with _ | _ | _ | _ | _ <;> rfl
theorem isi2_ff (d : Int ⊕ Bool) : Mi.isi2 false false d = false := by rcases d with _ | _ <;> rfl
theorem dInt {i j : Int} : decide (V.int i = V.int j) = decide (i = j) := by
 by_cases e : i = j
 · subst e; simp
 · rw [decide_eq_false (fun z => e (V.int.inj z)), decide_eq_false e]
theorem dBl {i j : Bool} : decide (V.bl i = V.bl j) = decide (i = j) := by
 by_cases e : i = j
 · subst e; simp
 · rw [decide_eq_false (fun z => e (V.bl.inj z)), decide_eq_false e]
theorem w_eq5 {x y : Mi.U5} {b : Bool} (r : y5.rep K H F1 v x) (q : y5.rep K H F2 u y) (h : Mi.eq5 x y = some b) (k : Q (.bl b) H) : rEq v u H Q := by
 rcases s5_cases r with ⟨i, rfl, rfl⟩ | ⟨s, rfl, rfl⟩ | ⟨c, rfl, rfl⟩ | ⟨_, rfl, _⟩ | ⟨_, rfl, _⟩
 · rcases s5_cases q with ⟨j, rfl, rfl⟩ | ⟨_, rfl, rfl⟩ | ⟨_, rfl, rfl⟩ | ⟨_, rfl, _⟩ | ⟨_, rfl, _⟩
   · cases h; exact ⟨rfl, by rw [dInt]; exact k⟩
   all_goals cases h
 · rcases s5_cases q with ⟨_, rfl, rfl⟩ | ⟨t, rfl, rfl⟩ | ⟨_, rfl, rfl⟩ | ⟨_, rfl, _⟩ | ⟨_, rfl, _⟩
   · cases h
   · cases h; exact ⟨rfl, by rw [dTx]; exact k⟩
   all_goals cases h
 · rcases s5_cases q with ⟨_, rfl, rfl⟩ | ⟨_, rfl, rfl⟩ | ⟨t, rfl, rfl⟩ | ⟨_, rfl, _⟩ | ⟨_, rfl, _⟩
   · cases h
   · cases h
   · cases h; exact ⟨rfl, by rw [dBl]; exact k⟩
   all_goals cases h
 · cases h
 · cases h
theorem w_eq2 {x y : Int ⊕ Bool} {b : Bool} (r : y2.rep K H F1 v x) (q : y2.rep K H F2 u y) (h : Mi.eq2 x y = some b) (k : Q (.bl b) H) : rEq v u H Q := by
 rcases s2_cases r with ⟨i, rfl, rfl⟩ | ⟨c, rfl, rfl⟩
 · rcases s2_cases q with ⟨j, rfl, rfl⟩ | ⟨_, rfl, rfl⟩
   · cases h; exact ⟨rfl, by rw [dInt]; exact k⟩
   · cases h
 · rcases s2_cases q with ⟨_, rfl, rfl⟩ | ⟨t, rfl, rfl⟩
   · cases h
   · cases h; exact ⟨rfl, by rw [dBl]; exact k⟩
theorem val_len5 {d : Mi.U5} {n : Int} (r : y5.rep K H F v d) (h : Mi.len5 d = some n) (ha : Val ta σ H v) : Val (tCB (rLenQ K) (tCons ta tNil)) σ H (.int n) := by
 rcases s5_cases r with ⟨_, rfl, rfl⟩ | ⟨_, rfl, rfl⟩ | ⟨_, rfl, rfl⟩ | ⟨_, rfl, r⟩ | ⟨_, rfl, r⟩
 · cases h
 · cases h
 · cases h
 · cases h; exact val_lenT r ha
 · cases h; exact val_lenT r ha
theorem itm_5 {d : Mi.U5} {i : Int} {x : Int ⊕ Bool} (r : y5.rep K H F v d) (h : Mi.it5 d i = some x) : ∃ u, y2.rep K H [] u x ∧ ∀ {σ : L2.St} {ta tb : TE}, Val ta σ H v → Val tb σ H (.int i) → Val (tOp (rIxT K) ta tb) σ H u := by
 rcases s5_cases r with ⟨_, rfl, rfl⟩ | ⟨_, rfl, rfl⟩ | ⟨_, rfl, rfl⟩ | ⟨xs, rfl, r⟩ | ⟨xs, rfl, r⟩
 · cases h
 · cases h
 · cases h
 · obtain ⟨y, e, rfl⟩ := Option.map_eq_some_iff.mp h
   obtain ⟨w, rw, kw⟩ := itm_T r e
   exact ⟨w, rw, kw⟩
 · obtain ⟨y, e, rfl⟩ := Option.map_eq_some_iff.mp h
   obtain ⟨w, rw, kw⟩ := itm_T r e
   exact ⟨w, rw, kw⟩
theorem q_matchT (h : te σ H fun x H1 => tm x { D with nx := t2 D } σ H1) : tSeq (tMatchT te tm) t2 D σ H := h
end
end G
namespace G
open PySem PySem.Spec PyProof.Rows L2
section
variable {K : PySem.W.Frag} {σ σ' : L2.St} {H : Hp} {F F1 F2 Fu : List Addr} {ta tb te : TE} {tt : TT} {v u x y : V} {i j : Int} {α β : Type} {τ : Ty α} {υ : Ty β} {Q : VK} {D : Ends} {t1 t2 : TS} {g : TG} {ws : List Nat}
end
end G
namespace G
open PySem PySem.Spec PyProof.Rows
end G
namespace L2
open PySem PySem.Spec PyProof.Rows
end L2
namespace G
open PySem PySem.Spec PyProof.Rows L2
section
variable {X : Cx} {K : PySem.W.Frag} {σ σ' : L2.St} {H : Hp} {F F1 F2 Fu : List Addr} {ta tb te : TE} {v u x y : V} {i j : Int} {n : Nat} {α β : Type} {τ : Ty α} {υ : Ty β} {Q : VK} {D : Ends} {t1 t2 : TS} {g : TG} {ws : List Nat}
def rIntS : List V → Hp → VK → Prop := fun xs H Q => ∃ a n, xs = [.str a] ∧ PySem.intText? a = some n ∧ a.length ≤ 640 ∧ Q (.int n) H
theorem cl_intS : CallR X (.type "int") rIntS := call_int_str
def rNiK (K : PySem.W.Frag) (w : World) : R2 := fun x y H Q => ∃ (a : Addr) (es : Array DictEntry) (n : Nat) (z : Str) (r : Option Value), KDict K w a es n ∧ x = .str z ∧ y = .ref a ∧ PySem.W.nsIn K a z = some r ∧ Q (.bl (!r.isSome)) H
theorem op_ni_k {K : PySem.W.Frag} {w : World} (e : X.K = K := by rfl) (ew : X.w = w := by rfl) : OpR X (compareOp .NotIn) (rNiK K w) := by
 subst e ew
 intro pins s σ H x y v u Q I rx ry h
 obtain ⟨a, es, n, z, r, D, h1, h2, h3, q⟩ := h
 exact op_notIn_kd D pins s σ H x y v u Q I rx ry ⟨z, r, h1, h2, h3, q⟩
theorem ix_kd {K : PySem.W.Frag} {w : World} (e : X.K = K := by rfl) (ew : X.w = w := by rfl) : IxR X (rIxD K w) := by subst e ew; exact ix_kdict
end
end G
namespace G
open PySem PySem.Spec PyProof.Rows L2
theorem keys_no {P : Params} {z : Str} : ∀ {l : List DictEntry} {ks : List Str}, l.map He.keyOf = He.keysIn P ks → z ∉ ks → l.find? (·.key.isStr z) = none ∧ l.any (·.refKey) = false
 | [], _, _, _ => ⟨rfl, rfl⟩
 | e :: r, [], h, _ => by cases h
 | e :: r, k :: ks, h, hz => by
   have h1 : He.keyOf e :: r.map He.keyOf = some (k, PyData.keyHash P k) :: He.keysIn P ks := h
   injection h1 with h2 h3
   obtain ⟨i1, i2⟩ := keys_no h3 (fun q => hz (List.mem_cons_of_mem _ q))
   unfold He.keyOf at h2
   split at h2
   · rename_i x t q
     have h4 := Option.some.inj h2
     obtain ⟨h5, h6⟩ := Prod.mk.inj h4
     have ne : e.key.isStr z = false := by
       rw [q]
       rw [PySem.W.isStr_of]
       show (x == z) = false
       rw [beq_eq_false_iff_ne]
       intro e; exact hz (by rw [← e, h5]; exact List.mem_cons_self ..)
     have nr : e.refKey = false := by unfold DictEntry.refKey; rw [q]
     refine ⟨?_, ?_⟩
     · rw [List.find?_cons, ne]; exact i1
     · rw [List.any_cons, nr, i2]; rfl
   · cases h2
theorem ns_miss {K : PySem.W.Frag} {P : Params} {a : Addr} {ks : List Str} (h : He.dicW K a = some (He.keysIn P ks)) {z : Str} (hz : z ∉ ks) : PySem.W.nsIn K a z = some none := by
 unfold He.dicW at h
 cases q : K.lookup a with
 | none =>
   rw [q] at h
   cases h
 | some o =>
   obtain ⟨oc, od, dt, osl⟩ := o
   rw [q] at h
   cases oc with
   | type c =>
     cases od with
     | none =>
       cases dt with
       | dict es n =>
         have h1 : (match decide (c = "dict") && (osl.isEmpty && !(a == sysModules)) with
           | true => some (es.toList.map He.keyOf)
           | false => none) = some (He.keysIn P ks) := h
         cases z' : decide (c = "dict") && (osl.isEmpty && !(a == sysModules)) with
         | false =>
           rw [z'] at h1
           cases h1
         | true =>
           rw [z'] at h1
           obtain ⟨e1, e2⟩ := keys_no (Option.some.inj h1) hz
           unfold PySem.W.nsIn
           rw [q]
           show (match es.toList.find? (·.key.isStr z) with
             | some e => some (some e.val)
             | none => if es.toList.any (·.refKey) then none else some none) = some none
           rw [e1]
           show (if es.toList.any (·.refKey) then none else some none) = some none
           rw [e2]; rfl
       | _ => cases h
     | some b => cases dt <;> cases h
   | _ => cases od <;> cases dt <;> cases h
theorem says_tab {fa : List He.Fa} {fn : List He.DefD} {ts : List He.Tab} {w : World} {K : PySem.W.Frag} (c : He.SaysT fa fn ts w K) (i : Nat) {t : He.Tab} (h : ts[i]? = some t := by rfl) : He.dicW K (t.1 K) = some (He.keysIn w.params t.2) := by
 have e : ts.map (fun t => He.dicW K (t.1 K)) = ts.map fun t => some (He.keysIn w.params t.2) := congrArg (fun z : He.AlT => z.2) c
 have e2 : (ts.map fun t => He.dicW K (t.1 K))[i]? = (ts.map fun t => some (He.keysIn w.params t.2))[i]? := by rw [e]
 rw [List.getElem?_map, List.getElem?_map, h] at e2
 exact Option.some.inj e2
end G
namespace L2
open PySem PySem.Spec PyProof.Rows
end L2
namespace G
open PySem PySem.Spec PyProof.Rows L2
section
variable {K : PySem.W.Frag} {σ σ' : L2.St} {H : Hp} {F F1 F2 Fu : List Addr} {ta tb tc td te : TE} {v u x y : V} {i j k l : Int} {α β : Type} {τ : Ty α} {υ : Ty β} {Q : VK} {c : Bool}
end
end G
namespace G
open PySem PySem.Spec PyProof.Rows L2
section
variable {K : PySem.W.Frag} {σ σ' : L2.St} {H : Hp} {F F1 F2 Fu : List Addr} {ta tb te : TE} {v u x y : V} {i j : Int} {α β : Type} {τ : Ty α} {υ : Ty β} {Q : VK}
def Lst (H : Hp) (a : Addr) (xs : List V) : Prop := H a = some (.lst xs) ∨ ∃ o, H a = some (.frz o (.lst xs))
theorem lst_ok {X : Cx} {pins : List (Addr × Obj)} {σ : L2.St} {s : Shared} {H : Hp} {a : Addr} {xs : List V} (I : Inv X pins σ H s) (h : Lst H a xs) : ∃ (its : List Value) (n : Nat), Vals xs its ∧ xs.length = its.length ∧ s.heap.get? a = some { cls := .type "list", data := .seq its.toArray n } := by
 rcases h with h | ⟨o, h⟩
 · obtain ⟨z, its, n, r, e⟩ := (show ObjOk X.prog X.w H s.heap a (.lst xs) from I.hok a _ h)
   exact ⟨its, n, r, r.length, e⟩
 · obtain ⟨e0, z, its, n, r, e⟩ := (show s.heap.get? a = some o ∧ ObjOk X.prog X.w H s.heap a (.lst xs) from I.hok a _ h)
   exact ⟨its, n, r, r.length, e⟩
section
variable {n m : Nat} {x y : α} {w' : V}
end
end
end G
namespace G
open PySem PySem.Spec PyProof.Rows L2
section
variable {K : PySem.W.Frag} {σ σ' : L2.St} {H H' : Hp} {F F1 F2 Fu : List Addr} {ta tb te : TE} {v u x y : V} {i j : Int} {α β : Type} {τ : Ty α} {υ : Ty β} {Q : VK} {D : Ends}
end
end G
namespace G
open PySem PySem.Spec PyProof.Rows L2
section
variable {K : PySem.W.Frag} {σ σ' : L2.St} {H H' : Hp} {F F1 F2 Fu : List Addr} {ta tb te : TE} {v u x y : V} {i j : Int} {α β : Type} {τ : Ty α} {υ : Ty β} {Q : VK} {D : Ends}
end
end G
namespace G
open PySem PySem.Spec PyProof.Rows L2
section
variable {K : PySem.W.Frag} {σ σ' : L2.St} {H : Hp} {F F1 F2 Fu G : List Addr} {ta tb te : TE} {v u x y e : V} {i j : Int} {α β : Type} {τ : Ty α} {υ : Ty β} {Q : VK} {D : Ends} {nx : L2.St → Hp → Prop}
end
end G
namespace L2
open PySem PySem.Spec PyProof.Rows
end L2
namespace G
open PySem PySem.Spec PyProof.Rows L2
section
variable {X : Cx} {K : PySem.W.Frag} {σ σ' : L2.St} {H : Hp} {F F1 F2 Fu : List Addr} {ta tb te : TE} {v u x y : V} {i j : Int} {n : Nat} {α β : Type} {τ : Ty α} {υ : Ty β} {Q : VK} {D : Ends} {t1 t2 : TS} {g : TG} {ws : List Nat}
end
end G
namespace L2
open PySem PySem.Spec PyProof.Rows
end L2
namespace G
open PySem PySem.Spec PyProof.Rows L2
section
variable {K : PySem.W.Frag} {σ σ' : L2.St} {H : Hp} {F F1 F2 Fu : List Addr} {ta tb te : TE} {v u x y : V} {i j : Int} {α β : Type} {τ : Ty α} {υ : Ty β} {Q : VK} {D : Ends}
end
end G
namespace G
open PySem PySem.Spec PyProof.Rows L2
section
variable {K : PySem.W.Frag} {σ σ' : L2.St} {H : Hp} {F F1 F2 Fu G : List Addr} {ta tb te : TE} {v u x y e : V} {i j : Int} {α β : Type} {τ : Ty α} {υ : Ty β} {Q : VK} {D : Ends} {t1 t2 : TS}
end
end G
namespace G
open PySem PySem.Spec PyProof.Rows L2
section
variable {K : PySem.W.Frag} {H : Hp} {F1 F2 : List Addr} {v w' : V} {Q : VK} {α : Type} {n m : Nat} {x y : α}
end
end G
namespace G
open PySem PySem.Spec PyProof.Rows L2
abbrev AlXT : Type := He.AlT × Bool × List FnN
end G
namespace G
open PySem PySem.Spec PyProof.Rows L2
def deaf : GenState → GenState
 | .suspended _ l c p fs cl => .suspended (fun _ => .unsupported "") l c p fs cl
 | x => x
def slp : GenState → Bool
 | .suspended .. => true
 | _ => false
def plainG : GenState → Prop
 | .suspended _ _ _ _ fs _ => splitAtGen fs = none
 | _ => True
structure Sim (D : Nat → Option GenState) (G G0 : Array GenState) : Prop where
 sz : G0.size = G.size
 old : ∀ (g : Nat) x, D g = some x → G[g]? = some x ∧ G0[g]? = some (deaf x) ∧ slp x = true
 new : ∀ (g : Nat) x, D g = none → G[g]? = some x → G0[g]? = some x ∧ plainG x
section
variable {D : Nat → Option GenState} {G G0 : Array GenState} {g : Nat} {x : GenState}
theorem Sim.get (h : Sim D G G0) (d : D g = none) (e : G0[g]? = some x) : G[g]? = some x ∧ plainG x := by
 have l : g < G.size := by rw [← h.sz]; exact (Array.getElem?_eq_some_iff.mp e).1
 have q : G[g]? = some G[g] := Array.getElem?_eq_getElem l
 obtain ⟨a, b⟩ := h.new g _ d q
 rw [e] at a; cases a
 exact ⟨q, b⟩
theorem Sim.set (h : Sim D G G0) (d : D g = none) (px : plainG x) : Sim D (G.setIfInBounds g x) (G0.setIfInBounds g x) := by
 refine ⟨by rw [Array.size_setIfInBounds, Array.size_setIfInBounds]; exact h.sz, fun j y q => ?_, fun j y q r => ?_⟩
 · have ne : g ≠ j := fun z => by subst z; rw [d] at q; cases q
   rw [Array.getElem?_setIfInBounds_ne ne, Array.getElem?_setIfInBounds_ne ne]
   exact h.old j y q
 · by_cases ne : g = j
   · subst ne
     rw [Array.getElem?_setIfInBounds_self] at r ⊢
     split at r
     · cases r
       rename_i l
       rw [if_pos (by rw [h.sz]; exact l)]
       exact ⟨rfl, px⟩
     · cases r
   · rw [Array.getElem?_setIfInBounds_ne ne] at r ⊢
     exact h.new j y q r
theorem Sim.push (h : Sim D G G0) (px : plainG x) : Sim D (G.push x) (G0.push x) := by
 refine ⟨by rw [Array.size_push, Array.size_push, h.sz], fun j y q => ?_, fun j y q r => ?_⟩
 · obtain ⟨a, b, c⟩ := h.old j y q
   have l := (Array.getElem?_eq_some_iff.mp a).1
   refine ⟨?_, ?_, c⟩
   · rw [Array.getElem?_push, if_neg (by omega)]; exact a
   · rw [Array.getElem?_push, if_neg (by rw [h.sz]; omega)]; exact b
 · rw [Array.getElem?_push] at r ⊢
   by_cases l : j = G.size
   · rw [if_pos l] at r
     rw [if_pos (by rw [h.sz]; exact l)]
     cases r
     exact ⟨rfl, px⟩
   · rw [if_neg l] at r
     rw [if_neg (by rw [h.sz]; exact l)]
     exact h.new j y q r
end
end G
namespace G
open PySem PySem.Spec PyProof.Rows L2 GenW
abbrev Zk := Hp × List (Addr × Obj)
structure GP where
 M : Model
 A : Around
 En : Nat → Zk → Shared → Result → Shared → Prop
 Yd : Nat → Zk → Shared → Value → Shared → (Zk → Shared → Prop) → Prop
section
variable {G : GP} {n : Nat} {Z : Zk} {so s : Shared} {c : Code} {fs : List Frame}
end
structure GF where
 X0 : Cx
 q : Nat
 n : Nat
 it : Nat → V → Hp → Prop
 Hs : Hp
 g0 : Addr × Obj
def cutH (h : Heap) (L : Addr) : Heap := { h with objs := h.objs.extract 0 L }
def GF.at (F : GF) (s : Shared) (Z : Zk) : Cx := { F.X0 with s_0 := { s with heap := cutH s.heap F.X0.env.locals }, H_0 := Z.1, pn := Z.2 }
def IpOk (F : GF) (Z : Zk) (so : Shared) (ip : List (Addr × Obj)) : Prop := (F.X0.env.locals ≤ so.heap.objs.size ∧ F.g0 ∈ ip) ∧ ∀ p ∈ ip, F.X0.env.locals ≤ p.1 ∧ ∀ p' ∈ Z.2, p'.1 ≠ p.1
def GF.yd (F : GF) : Nat → Zk → Shared → Value → Shared → (Zk → Shared → Prop) → Prop := fun m Z so v s' kap =>
 ∃ x σ Hy ip, 0 < m ∧ m ≤ F.n ∧ RelV x v ∧ F.it (F.n - m) x Hy ∧ Chg [] F.Hs Hy ∧ Inv (F.at so Z) ip σ Hy s' ∧ IpOk F Z so ip ∧ ∀ s2 P2 H2, Chg [] Hy H2 → Inv (F.at s2 (H2, P2)) ip σ H2 s2 → IpOk F (H2, P2) s2 ip → kap (H2, P2) s2
def GF.en (F : GF) (gp : Addr × Obj) : Nat → Zk → Shared → Result → Shared → Prop := fun m Z so r s' =>
 (r = .ok (.ret .none) ∨ r = .ok .next) ∧ m = 0 ∧ ∃ σ He ip, Chg [] F.Hs He ∧ gp ∈ ip ∧ Inv (F.at so Z) ip σ He s' ∧ IpOk F Z so ip
def GF.gp (F : GF) (A : Around) (gp : Addr × Obj) : GP := ⟨model F.X0.prog F.X0.w, A, F.en gp, F.yd⟩
section
variable {F : GF} {st : Stmt} {rest : List Stmt} {t u : TS}
end
end G
namespace G
open PySem PySem.Spec PyProof.Rows L2 GenW
section
variable {F : GF} {st : Stmt} {rest : List Stmt} {t u : TS}
end
end G
namespace G
open PySem PySem.Spec PyProof.Rows L2 GenW
def Exp : HO → Prop
 | .tup _ => True
 | .frz _ (.tup _) => True
 | .frz _ (.lst _) => True
 | _ => False
def Flt : HO → Prop
 | .lst _ => True
 | .dK _ => True
 | .dT _ => True
 | .set _ _ => True
 | .ext _ => True
 | _ => False
section
variable {P : Program} {w : World} {H H' : Hp} {h h' : Heap} {a : Addr} {o : HO}
end
section
variable {X : Cx} {pins : List (Addr × Obj)} {σ : L2.St} {H : Hp} {s : Shared}
end
end G
namespace G
open PySem PySem.Spec PyProof.Rows L2 GenW
structure Dd (h h' : Heap) : Prop where
 sz : h.objs.size ≤ h'.objs.size
 dead : ∀ b, b < h.objs.size → h.get? b = none → h'.get? b = none
theorem Dd.refl (h : Heap) : Dd h h := ⟨Nat.le_refl _, fun _ _ e => e⟩
theorem Dd.trans {a b c : Heap} (x : Dd a b) (y : Dd b c) : Dd a c := ⟨Nat.le_trans x.sz y.sz, fun d l e => y.dead d (Nat.lt_of_lt_of_le l x.sz) (x.dead d l e)⟩
open Classical in
noncomputable def hideM (H : Hp) (M : List Addr) : Hp := fun b => if b ∈ M then none else H b
theorem hide_out {H : Hp} {M : List Addr} {b : Addr} (h : b ∉ M) : hideM H M b = H b := if_neg h
section
variable {A B : Hp} {b : Addr} {o : HO}
end
structure Rel (env : Env) (H1 : Hp) (M : List Addr) (Hg Hc : Hp) : Prop where
 mm : ∀ b ∈ M, Hg b = none
 gg : Chg [] (hideM H1 M) Hg
 cc : Chg M H1 Hc
 ol : ∀ b, b < env.locals → Hc b = none → Hg b = none
 sh : ∀ b o, H1 b = none → Hg b = some o → Hc b = none ∨ (Hc b = some o ∧ Exp o)
 fm : ∀ b ∈ M, ∃ o, Hc b = some o ∧ Flt o
 dm : ∀ b ∈ M, ∃ o, H1 b = some o
theorem Rel.old {env : Env} {H1 : Hp} {M : List Addr} {Hg Hc : Hp} (R : Rel env H1 M Hg Hc) {b : Addr} {o : HO} (h : H1 b = some o) (m : b ∉ M) : Hg b = some o ∧ Hc b = some o :=
 ⟨R.gg.keep b o (by rw [hide_out m]; exact h) (.inl List.not_mem_nil), R.cc.keep b o h (.inl m)⟩
end G
namespace G
open PySem PySem.Spec PyProof.Rows L2 GenW
section
variable {X : Cx} {N : List Str} {env : Env} {Aw : Around} {q n : Nat} {it : Nat → V → Hp → Prop} {H1 Hg Hc Hy Hs : Hp} {M : List Addr} {pins ip ip' : List (Addr × Obj)} {σ σg σ' : L2.St} {s so sy : Shared} {g0 : Addr × Obj}
end
end G
namespace G
open PySem PySem.Spec PyProof.Rows L2 GenW
end G
namespace G
open PySem PySem.Spec PyProof.Rows L2 GenW
abbrev SpY := List V → Hp → Nat → (Nat → V → Hp → Prop) → Prop
end G
namespace G
open PySem PySem.Spec PyProof.Rows L2 GenW
section
variable {X : Cx} {N : List Str} {env : Env} {Aw : Around} {q n : Nat} {it : Nat → V → Hp → Prop} {H1 : Hp} {M : List Addr} {pins : List (Addr × Obj)} {σ : L2.St} {s s' : Shared} {vs : List V}
end
end G
namespace G
open PySem PySem.Spec PyProof.Rows L2 GenW
end G
namespace Mi
end Mi
namespace G
open PySem PySem.Spec PyProof.Rows L2 GenW
section
variable {K : PySem.W.Frag} {σ σ' : L2.St} {H H1 : Hp} {F : GF} {F1 F2 M : List Addr} {v u x : V} {α β : Type} {τ : Ty β} {te : TE} {ta : TA} {D : Ends} {t1 t2 tb : TS} {gt : TG} {sp : SpY} {vs : List V} {tot : List β}
end
end G
namespace PySem
namespace ErrI_leg
open PySem.W PySem.Calls PyProof.Rows PySem.HandSPX
open PySem.ErrX (ldX one_size)
def eA (p1 p2 : Pos) : Arguments := { posonlyargs := [], args := [{ arg := "self", annotation := none, pos := p1 }, { arg := "leg", annotation := none, pos := p2 }], vararg := none, kwonlyargs := [], kw_defaults := [], kwarg := none, defaults := [] }
def eB (m : Str) (p0 p1 p2 p3 p4 p5 p6 p7 q1 q2 q3 q4 r5 r6 : Pos) : List Stmt :=
 [.Expr (.Call (.Attribute (.Call (.Name "super" p0) [] [] p1) "__init__" p2) [.BinOp (.Constant (.str m) 0 p3) .Add (.Call (.Name "str" r5) [.Name "leg" p4] [] r6) p5] [] p6) p7, .Assign [.Attribute (.Name "self" q1) "leg" q2] (.Name "leg" q3) q4]
def eS : Scope := { kind := .function, names := [(PySem.Str.ofString "self", .local), (PySem.Str.ofString "leg", .local), (PySem.Str.ofString "__class__", .free), (PySem.Str.ofString "super", .globalImplicit), (PySem.Str.ofString "str", .globalImplicit)], isGenerator := false, isCoroutine := false, more := [] }
structure ErrTxt (P : Program) (K : Frag) (mg : Str → Option Value) (x qual : Str) (st : Stmt) (C fI : Addr) : Prop where
 gC : mg x = some (.ref C)
 cls : ∃ nm q N bs bm sn sub ab col dd k0 k1 k2 k3 k5, K.lookup C = some (excClassObj nm q C N bs bm true sn sub ab col dd k0 k1 k2 k3 k5 "ValueError.__new__") ∧ refsVE bm = true
 sa : findIn K (.ref C) "__setattr__" = some (some (.builtin "object.__setattr__"))
 ga : findIn K (.ref C) "__getattribute__" = some (some (.builtin "BaseException.__getattribute__"))
 gg : findIn K (.ref C) "__getattr__" = some none
 noN : findIn K (.ref C) "leg" = some none
 iC : findIn K (.ref C) "__init__" = some (some (.ref fI))
 tC : typeIn K (.ref fI) = some (.type "function")
 kC : keepIn K (.ref C) = true
 exC : subIn K (.ref C) (.type "BaseException") = some true
 veC : subIn K (.ref C) (.type "ValueError") = some true
 tyC : typeIn K (.ref C) = some (.type "type")
 hdC : hasDictIn K C = true
 mroC : mroIn K C (.ref C) = some true
 sup : ks_superIn K C C "__init__" = some (some (.builtin "ValueError.__init__"))
 opq : nsIn K cStatics "thirdparty.any" = some none
 nsu : mg "super" = none
 nst : mg "str" = none
 top : (P.main.scope.names.lookup ("super" : Str)).isSome = false
 fn : ∃ (oc : Value) (od : Option Addr) (doc pm : Value) (an : Option Addr) (cda : Addr) (ct : Value) (cc : Addr) (osl : Array (Option Value)),
   K.lookup fI = some ⟨oc, od, .func (ksFn "__init__" qual (L2.defArgs st) (L2.defBody st) (L2.defScope st) .none .none doc pm an (.ref cda) ct cc), osl⟩ ∧ codeIn K (.ref cda) qual = true ∧
   (∃ (ccl : Value) (cdd : Option Addr) (vs : Array Value) (ccs : Array (Option Value)) (file : Str) (tf : Tok), K.lookup cda = some ⟨ccl, cdd, .fields vs, ccs⟩ ∧ vs[2]? = some (.str file tf) ∧ ((P.main.file : Str) == file) = true) ∧
   ∃ (cl : Value) (cld : Option Addr) (csl : Array (Option Value)), K.lookup cc = some ⟨cl, cld, .cell (some (.ref C)), csl⟩
 shape : ∃ (msg : Str) (r1 r2 p0 p1 p2 p3 p4 p5 p6 p7 q1 q2 q3 q4 r5 r6 : Pos), L2.defArgs st = eA r1 r2 ∧ L2.defBody st = eB msg p0 p1 p2 p3 p4 p5 p6 p7 q1 q2 q3 q4 r5 r6 ∧ L2.defScope st = eS ∧ msg.length ≤ 100 ∧
   ∀ L f cda cc : Addr, ∃ pl : Sem Bool, eval (.Call (.Attribute (.Call (.Name "super" p0) [] [] p1) "__init__" p2) [.BinOp (.Constant (.str msg) 0 p3) .Add (.Call (.Name "str" r5) [.Name "leg" p4] [] r6) p5] [] p6) (ksEnv qual eS L f (.ref cda) cc) = (do
     let ov ← attributeBase (.Call (.Name "super" p0) [] [] p1) "__init__" (ksEnv qual eS L f (.ref cda) cc) (eval (.Call (.Name "super" p0) [] [] p1) (ksEnv qual eS L f (.ref cda) cc))
     standAt p2.atName
     let (f', first) ← holding [ov] (getMethod ov "__init__" pl)
     callWith p6 f' first (backTo p6 (starEach [.BinOp (.Constant (.str msg) 0 p3) .Add (.Call (.Name "str" r5) [.Name "leg" p4] [] r6) p5] (ksEnv qual eS L f (.ref cda) cc))) [])
structure InitEnd (h h' : Heap) (x C dx : Addr) (v : Value) : Prop where
 keep : ∀ b o, b ≠ x → h.get? b = some o → h'.get? b = some o
 obj : ∃ t1 : Addr, h'.get? x = some { cls := .ref C, dict := some dx, data := .fields #[.ref t1, .none, .none, .none, .bool false, .none] }
 dbig : h.objs.size ≤ dx
 dne : dx ≠ x
 ns : h'.Ns1 dx (fun y => if y = "leg" then some v else none)
section
variable {prog : Program} {w : World} {A : Around} {E : Value → Shared → Prop} {R : Result → Shared → Prop} {s : Shared} {K : Frag} {mg mb : Str → Option Value} {C fI : Addr} {cn qual : Str} {st : Stmt}
theorem err_init (T : ErrTxt prog K mg cn qual st C fI) {x t0 : Addr} {y : Int} {ty : Tok} (X : K.In s.heap) (hg : s.heap.Ns mainGlobals mg) (hb : s.heap.Ns builtinsNs mb) (hbs : mb "super" = bootBuiltins "super") (hbt : mb "str" = bootBuiltins "str") (hlim : s.heap.NoLimit) (hx : s.heap.get? x = some (excO C t0)) (hnx : K.lookup x = none) (hy : y.natAbs.log2 < 1920) (hroom : A.depth < recursionLimit)
   (hq : ∀ h' tk dx, InitEnd s.heap h' x C dx (.int y ty) → R (.ok (.ret .none)) { s with heap := h', toks := tk }) :
   codeAny (model prog w) A (.call (.ref fI) ⟨[.ref x, .int y ty], []⟩) R s := by
 obtain ⟨oc, od, doc, pm, an, cda, ct, cc, osl, ho, hcd, ⟨ccl, cdd, vs, ccs, file, tf, hcode, hvs, hfile⟩, cl, cld, csl, hcell⟩ := T.fn
 obtain ⟨msg, r1, r2, p0, p1, p2, p3, p4, p5, p6, p7, q1, q2, q3, q4, r5, r6, eA', eB', eS', hml, hev⟩ := T.shape
 rw [eA', eB', eS'] at ho
 obtain ⟨nm, q, N, bs, bm, sn, sub, ab, col, dd, k0, k1, k2, k3, k5, hC, hbm⟩ := T.cls
 have hcl : clsIn K C = some { name := nm, bases := bs, mro := .ref C :: bm, ns := N, qualname := q, hasDict := true, slotNames := sn, subclasses := sub, abstract := ab, collection := col, hasDel := false } := by unfold clsIn; rw [hC] <;> rfl
 refine ks_codeAny_call_defAt (fd := ksFn "__init__" qual (eA r1 r2) (eB msg p0 p1 p2 p3 p4 p5 p6 p7 q1 q2 q3 q4 r5 r6) eS .none .none doc pm an (.ref cda) ct cc) (body := eB msg p0 p1 p2 p3 p4 p5 p6 p7 q1 q2 q3 q4 r5 r6) (binds := [("self", .ref x), ("leg", .int y ty)]) hroom (X _ _ ho) rfl hlim (codeRec_of X hcd) rfl (BindsTo.of_eq (by first | rfl | with_unfolding_all rfl)) (fun z hz => by revert z; show ∀ z ∈ eS.names, z.2 ≠ NameKind.cell; decide) (by first | decide | (intro z hz; simp at hz; rcases hz with rfl | rfl <;> rfl)) (fun h₁ hns k => ?_) rfl rfl rfl
 have X₁ : K.In h₁ := X.keeps k
 have hx₁ := k _ _ hx
 show wpAt (model prog w) _ _ (execs (_ :: _) (ksEnv qual eS s.heap.objs.size fI (.ref cda) cc)) _ _ _
 obtain ⟨pl, he⟩ := hev s.heap.objs.size fI cda cc
 refine ks_wpAt_execs_cons (ks_wpAt_Expr_any (ks_wpAt_MethodCall (pl := pl) (he := he) ?_))
 obtain ⟨oD, hD1, hD2⟩ : ∃ oD, h₁.get? C = some oD ∧ oD.data = .cls { name := nm, bases := bs, mro := .ref C :: bm, ns := N, qualname := q, hasDict := true, slotNames := sn, subclasses := sub, abstract := ab, collection := col, hasDel := false } := ⟨_, X₁ _ _ hC, rfl⟩
 refine ks_wpAt_super_base (env := ksEnv qual eS s.heap.objs.size fI (.ref cda) cc) rfl rfl rfl rfl (X₁ _ _ ho) rfl rfl rfl (X₁ _ _ hcode) rfl hvs hfile T.top ?_
 refine ks_loadName_global rfl rfl (loadGlobal_builtin (env := ksEnv qual eS s.heap.objs.size fI (.ref cda) cc) (hg.keeps k) T.nsu (hb.keeps k) (hbs.trans (by decide +kernel)) ⟨rfl, ?_⟩)
 refine wpAny_loadName_free rfl rfl rfl ⟨_, X₁ _ _ hcell, rfl⟩ ?_
 refine wpAny_loadName_local rfl rfl hns (v := .ref x) rfl ?_
 refine ks_wpAny_isType_cls hD1 hD2 ⟨rfl, ?_⟩
 refine ks_wpAny_call_super hD1 hD2 hx₁ rfl (fun c e => by cases e) (looks_mroIn X₁ T.mroC) (fun h₂ hso k₂ => ?_)
 have X₂ : K.In h₂ := X₁.keeps k₂
 have hx₂ := k₂ _ _ hx₁
 have I₂ : InstAt h₂ x (excO C t0) C none := ⟨hx₂, rfl, rfl, trivial⟩
 have hI : Looks (model prog w) h₂ (isInstance (.ref x) (.type "ValueError")) true := I₂.type.andThen (looks_subIn X₂ T.veC)
 have hsup := T.sup
 unfold ks_superIn at hsup
 rw [hcl] at hsup
 refine kxs_getMethod kxs_ValueError hso (looks_opaque X₂ T.opq) (l₀ := .ref C :: bm) (fun A Q E s k q => wpAny_bind ((looks_clsIn X₂ hcl) A _ E s k (wpAny_pure q))) rfl X₂ hsup hI (ks_ne X₂ I₂ hcl) rfl ?_
 have k₃ : ∀ b o, h₂.get? b = some o → (h₂.push (kxs_mw "ValueError.__init__" x)).get? b = some o := fun b o e => Heap.get?_push_of_some _ e
 have hu : (h₂.push (kxs_mw "ValueError.__init__" x)).get? h₂.objs.size = some (kxs_mw "ValueError.__init__" x) := Heap.get?_push_at rfl rfl
 have hns₃ : (h₂.push (kxs_mw "ValueError.__init__" x)).Ns s.heap.objs.size (fun y' => ([("self", .ref x), ("leg", Value.int y ty)] : List (Str × Value)).reverse.lookup y') := (hns.keeps k₂).keeps k₃
 refine kxs_callWith (i := "ValueError.__init__") (x := x) rfl (evalArgs_plain (args_cons (wpAny_BinOp (wpAny_Constant_str ?_)) rfl))
 refine wpAny_Call_Name_kw (wpAny_Name (ks_loadName_global (env := ksEnv qual eS s.heap.objs.size fI (.ref cda) cc) rfl rfl (loadGlobal_builtin (env := ksEnv qual eS s.heap.objs.size fI (.ref cda) cc) (((hg.keeps k).keeps k₂).keeps k₃) T.nst (((hb.keeps k).keeps k₂).keeps k₃) (v := .type "str") (hbt.trans (by decide +kernel)) ?_)) (by decide))
 refine PyProof.Rows.callWith_type1 (args_cons (ldX hns₃ (v := .int y ty) rfl ?_) rfl)
 refine args_nil (P.str_of_int hy ?_)
 refine add_str (fun t' tk => args_nil ⟨hu, ?_⟩) (by
   rw [ofString_length, sizeLine_eq]
   have := int_text_length_le (k := 1920) (by decide) hy
   omega)
 refine wpAny_call (codeAny_of_tree ?_)
 show wpAny _ _ (callAny (.ref h₂.objs.size) ⟨_, []⟩) _ _ _
 simp only [callAny]
 refine wpAny_bind (wpAny_load hu ?_)
 simp only [kxs_mw, show (Value.type "method-wrapper" == Value.type "method" || Value.type "method-wrapper" == Value.type "builtin_function_or_method" || Value.type "method-wrapper" == Value.type "method-wrapper") = true by decide, if_true]
 refine KFB.if_so (by decide) ?_
 refine wpAny_bind (check_bound_init F.excBase_ValueError.toExcCallFacts (k₃ _ _ (X₂ _ _ hC)) (k₃ _ _ hx₂) rfl ?_)
 refine wpAny_bind (wpAny_pure (wpAny_pure ?_))
 refine ⟨plainId_quiet F.excBase_ValueError.init.plain _, codeAny_builtin F.excBase_ValueError.initEntry ?_⟩
 refine exc_init_tree (cls := .ref C) (t0 := t0) (dv := none) (c2 := .none) (c3 := .none) (b4 := .bool false) (k₃ _ _ hx₂) (by rw [sizeLine_eq]; exact (by decide : 1 ≤ 16777216)) fun h₄ k₄ hx₄ _ => ?_
 show wpAt (model prog w) _ _ (execs (_ :: _) (ksEnv qual eS s.heap.objs.size fI (.ref cda) cc)) _ _ _
 have kk : ∀ b o, b ≠ x → s.heap.get? b = some o → h₄.get? b = some o := fun b o hb e => k₄ b o hb (k₃ b o (k₂ b o (k b o e)))
 have hLx : s.heap.objs.size ≠ x := Nat.ne_of_gt (Heap.lt_size hx)
 have hns₄ : h₄.Ns s.heap.objs.size (fun y' => ([("self", .ref x), ("leg", Value.int y ty)] : List (Str × Value)).reverse.lookup y') := by
   obtain ⟨oL, es, ep, hL, r⟩ := hns₃
   exact ⟨oL, es, ep, k₄ _ _ hLx hL, r⟩
 have X₄ : K.In h₄ := fun b o e => k₄ b o (fun z => by
   rw [z, hnx] at e; cases e) (k₃ b o (X₂ _ _ e))
 refine wpAt_of_wpAny (wpAny_execs_cons (plainObj_wpAny_Assign_Attribute ?_))
 refine ldX (v := .int y ty) hns₄ rfl (ldX (v := .ref x) hns₄ rfl ?_)
 refine set_plain X₄ (ox := excO C (h₂.push (kxs_mw "ValueError.__init__" x)).objs.size) (od := none) ⟨hx₄, rfl, rfl, trivial⟩ T.sa ?_
 refine exc_osa X₄ hx₄ hcl (show refsVE (.ref C :: bm) = true from hbm) rfl T.noN (fun h₅ tk₅ dx k₅ dn dne hx₅ hn₅ => ?_)
 show wpAny _ _ (execs _ _) _ _ _
 have z : s.heap.objs.size < h₄.objs.size := hns₄.lt
 exact wpAny_execs_nil (hq h₅ tk₅ dx ⟨fun b o hb e => k₅ b o hb (kk b o hb e), ⟨_, hx₅⟩, Nat.le_of_lt (Nat.lt_of_lt_of_le z dn), dne, hn₅⟩)
structure OwnMade (h h' : Heap) (e C d : Addr) (v : Value) : Prop where
 keep : ∀ b o, h.get? b = some o → h'.get? b = some o
 new : h.objs.size ≤ e
 obj : ∃ oe vs, h'.get? e = some oe ∧ oe.cls = .ref C ∧ oe.dict = some d ∧ oe.data = .fields vs ∧ vs[1]? = some .none ∧ vs[2]? = some .none
 dbig : h.objs.size ≤ d
 dne : d ≠ e
 ns : h'.Ns1 d (fun y => if y = "leg" then some v else none)
theorem err_made (T : ErrTxt prog K mg cn qual st C fI) {y : Int} {ty : Tok} (X : K.In s.heap) (hg : s.heap.Ns mainGlobals mg) (hb : s.heap.Ns builtinsNs mb) (hbs : mb "super" = bootBuiltins "super") (hbt : mb "str" = bootBuiltins "str") (hlim : s.heap.NoLimit) (hy : y.natAbs.log2 < 1920) (hroom : A.depth + 1 < recursionLimit)
   (hq : ∀ h' tk e d, OwnMade s.heap h' e C d (.int y ty) → R (.ok (.ret (.ref e))) { s with heap := h', toks := tk }) :
   codeAny (model prog w) A (.call (.ref C) ⟨[.int y ty], []⟩) R s := by
 obtain ⟨nm, q, N, bs, bm, sn, sub, ab, col, dd, k0, k1, k2, k3, k5, hC, hbm⟩ := T.cls
 obtain ⟨hp, g, dr, tk, os⟩ := s
 have k : ∀ b o, hp.get? b = some o → ((hp.push (kdv_tup [.int y ty])).push (excO C hp.objs.size)).get? b = some o := fun b o e => Heap.get?_push_of_some _ (Heap.get?_push_of_some _ e)
 have hget : ((hp.push (kdv_tup [.int y ty])).push (excO C hp.objs.size)).get? (hp.objs.size + 1) = some (excO C hp.objs.size) := by heap_get
 have hnx : K.lookup (hp.objs.size + 1) = none := by
   cases e : K.lookup (hp.objs.size + 1) with
   | none => rfl
   | some o =>
     have z : hp.get? (hp.objs.size + 1) = some o := X _ _ e
     exact absurd (Nat.lt_of_succ_lt (Heap.lt_size z)) (Nat.lt_irrefl _)
 refine call_own F.excBase_ValueError (fun X => refsVE_contains X bm hbm) (X _ _ hC) (looks_findIn X T.iC) (fun self => bind_fn X self T.tC) (one_size _) ?_
 refine err_init (s := ⟨(hp.push (kdv_tup [.int y ty])).push (excO C hp.objs.size), g, dr, tk, os⟩) T (X.keeps k) (hg.keeps k) (hb.keeps k) hbs hbt (hlim.keeps k) hget hnx hy ?_ fun h' tk' dx ⟨k', ⟨t1, hx⟩, dn, dne, hns⟩ => ?_
 · show A.depth + 1 < recursionLimit
   exact hroom
 · have old : ∀ b o, hp.get? b = some o → h'.get? b = some o := fun b o e => k' b o (Nat.ne_of_lt (Nat.lt_succ_of_lt (Heap.lt_size e))) (k b o e)
   have z : hp.objs.size + 1 + 1 ≤ dx := by
     first
       | (simpa only [Heap.size_push] using dn)
       | exact dn
       | (have q := dn; rw [Heap.size_push, Heap.size_push] at q; exact q)
   exact ⟨rfl, hq h' tk' (hp.objs.size + 1) dx ⟨old, Nat.le_succ _, ⟨_, _, hx, rfl, rfl, rfl, rfl, rfl⟩, Nat.le_trans (Nat.le_trans (Nat.le_succ _) (Nat.le_succ _)) z, dne, hns⟩⟩
end
end ErrI_leg
end PySem
namespace L2
open PySem PySem.Spec PyProof.Rows
section
variable {X : Cx} {C fI : Addr} {cn qual : Str} {st : Stmt}
end
end L2
namespace G
open PySem PySem.Spec PyProof.Rows L2
section
variable {K : PySem.W.Frag} {σ : L2.St} {H : Hp} {Q : VK} {C : Addr} {D : Ends} {t2 : TS} {te : TE} {a dd : Addr} {fs : List (Str × V)}
end
end G
namespace G
open PySem PySem.Spec PyProof.Rows L2
section
variable {K : PySem.W.Frag} {H : Hp} {Q : VK} {F : List Addr} {v : V} {α : Type} {τ : Ty α}
end
end G
namespace G
open PySem PySem.Spec PyProof.Rows L2
section
variable {K : PySem.W.Frag} {σ : L2.St} {H : Hp} {Q : VK} {C : Addr} {te : TE} {a dd : Addr} {fs : List (Str × V)}
end
end G
namespace G
open PySem PySem.Spec PyProof.Rows L2
structure CalXN (P : Program) (w : World) (K : PySem.W.Frag) (mg : Str → Option Value) (x : Str) (ps : List Str) (k : Nat) (sp : Sp) : Prop where
 ex : ∃ f fd, mg x = some (.ref f) ∧ PySem.W.keepIn K (.ref f) = true ∧ (∀ (s : Shared) (us : List Value), us.length = ps.length → BindsTo s fd ⟨us, []⟩ (ps.zip us)) ∧ ∀ base : Heap, FnOk P w K mg base (L2N.CX P w) k f fd ps sp
theorem pe_ccSN {X : Cx} {x : Str} {ps : List Str} {j k : Nat} {sp : Sp} {p pos : Pos} {e : Expr} {es : List Expr} {t : TA} {E : L2.St → XK} (C : CalXN X.prog X.w X.K X.mg x ps j sp) (hr : Room k X.A) (hx : ∀ σ, PassesAt (L2N.CX X.prog X.w) X σ (E σ)) (ha : PA X (e :: es) t) (hj : j ≤ k := by decide) (hg : Gl X x := by rfl)
   (hd : (x == ("__debug__" : Str)) = false := by decide) (he : starEach (e :: es) X.env = (false, eval e X.env) :: starEach es X.env := by rfl)
   (hpl : (backTo pos (starEach es X.env)).any (·.1) = false := by rfl) :
   PE X (.Call (.Name x p) (e :: es) [] pos) (tCallS sp E t) := by
 obtain ⟨f, fd, g, kp, b, F⟩ := C.ex
 exact pe_callS (F X.base) (hr.mono hj) hg g kp (fun s us _ hl => by rw [List.append_nil] at hl ⊢; exact b s us hl) hx ha hd he hpl
theorem take0N {X : Cx} : L2N.Takes X (fun _ _ _ _ => False) := fun _ _ x => by
 obtain ⟨a, B, sI, pins, σ, H, cls, d, _, _, _, _, _, _, _, _, w⟩ := x
 exact w.elim
theorem okXN {P : Program} {w : World} {K : PySem.W.Frag} {mg : Str → Option Value} {base : Heap} {x qual : Str} {st : Stmt} {f : Addr} {fd : FuncData} {N ps : List Str} {k : Nat} {sp : Sp} (F : Fun K x qual st f fd) (S : FnScope N ps (defScope st)) (len : ∀ vs H Q E, sp vs H Q E → vs.length = ps.length)
   (hbody : ∀ (cdv : Value) (A : Around) (outer : List Env) (s : Shared) (H : Hp) (vs : List V) (Q : VK) (E : XK), Room k (A.deeper (envOfC qual (defScope st) s.heap.objs.size f cdv)) → sp vs H Q E →
     ∃ t, PSs (cxOf (L2N.CX P w) P w K mg base N qual (defScope st) f cdv A outer s H E) (defBody st) t ∧ t { nx := fun _ H' => Q .non H', rt := Q } (start N vs) H) : FnOk P w K mg base (L2N.CX P w) (k + 1) f fd ps sp := by
 obtain ⟨oc, od, kV, doc, pm, an, cdv, ct, osl, rfl, lk, hcd⟩ := F.ex
 exact fn_of lk hcd S len fun A outer s H vs Q E hr hsp => hbody cdv A outer s H vs Q E hr hsp
end G
namespace G
open PySem PySem.Spec PyProof.Rows L2
end G
namespace G
open PySem PySem.Spec PyProof.Rows L2
def frL (L : List Addr) (g : Addr → Option Obj) : PySem.W.Frag := He.frG g (L ++ [cStatics])
def obsXTGL (L : List Addr) (fa : List He.Fa) (fn : List He.DefD) (ts : List He.Tab) (ex : PySem.W.Frag → Bool) (file : Str) (er : List ErrD) (g : Addr → Option Obj) : AlXT := (He.obsT fa fn ts (frL L g), ex (frL L g) && er.all (fun d => d.ok (frL L g) file), er.map fun d => fnN (frL L g) (d.x, some "__init__"))
def hookXTL (L : List Addr) (fa : List He.Fa) (fn : List He.DefD) (ts : List He.Tab) (ex : PySem.W.Frag → Bool) (file : Str) (er : List ErrD) : PySem.W.Hook where
 α := AlXT
 obs := fun s => obsXTGL L fa fn ts ex file er s.heap.get?
 val := fun w => (He.valT fn ts w, true, er.map ErrD.val)
 says := fun w h => ∃ K : PySem.W.Frag, K.In h ∧ (He.SaysT fa fn ts w K ∧ SaysX fa fn ex file er K)
 of := fun _ _ e =>
   have t := congrArg Prod.fst e
   ⟨_, He.frG_in, t, He.SaysT.d t, (He.ba (congrArg (fun z : AlXT => z.2.1) e)).1, (He.ba (congrArg (fun z : AlXT => z.2.1) e)).2, congrArg (fun z : AlXT => z.2.2) e⟩
 keeps := fun _ _ _ ⟨K, hK, c⟩ k => ⟨K, PySem.W.Frag.In.keeps hK k, c⟩
theorem obsXTGL_eq {L : List Addr} {fa : List He.Fa} {fn : List He.DefD} {ts : List He.Tab} {ex : PySem.W.Frag → Bool} {file : Str} {er : List ErrD} {g : Addr → Option Obj} {s : Shared} (h : ∀ a, g a = s.heap.get? a) : obsXTGL L fa fn ts ex file er g = (hookXTL L fa fn ts ex file er).obs s := by
 have e : g = s.heap.get? := funext h
 rw [e] <;> rfl
end G
namespace G
open PySem PySem.Spec PyProof.Rows L2
end G
namespace G
open PySem PySem.Spec PyProof.Rows L2
section
variable {K : PySem.W.Frag} {σ : L2.St} {H : Hp} {Q : VK} {v w : V} {α β γ : Type} {τ : Ty α} {υ : Ty β} {ω : Ty γ} {g : TG} {tt : TT} {te : TE} {ws : List Nat}
end
end G
namespace Mi
end Mi
namespace L2
open G (Lst lst_ok)
open PySem PySem.Spec PyProof.Rows
end L2
namespace G
open PySem PySem.Spec PyProof.Rows L2
section
variable {K : PySem.W.Frag} {H : Hp} {Q : VK} {v u : V}
end
end G
namespace G
open PySem PySem.Spec PyProof.Rows L2
section
variable {X : Cx} {e b : Expr} {te tb : TE} {i : Nat} {x : Str} {p q rest : List Stmt} {t u tr : TS} {p1 p2 p3 p4 : Pos}
def wNmM (te : TE) (i : Nat) : TEw := fun σ H Q => ∃ Qe : VK, te σ H Qe ∧ ∀ x H1, Qe x H1 → Q x (σ.set i (some x)) H1
theorem pew_namedM (hN : X.N.Nodup) (hi : X.N[i]? = some x) (hx : Loc X.env.scope x) (he : PE X e te) (hf : X.fn x = true ∨ X.env.scope.names.lookup x = some .local := by first | exact .inl rfl | exact .inr rfl | assumption) :
   PEw X (.NamedExpr (.Name x p1) e p2) (wNmM te i) := by
 refine ⟨fun pins s σ H Q I h => ?_⟩
 obtain ⟨Qe, h, k⟩ := h
 refine wpAny_NamedExpr (thn (he.run pins s σ H _ I h) fun v s1 ⟨x1, H1, I1, r1, q1⟩ => ?_)
 exact wpAny_assign_Name (store_ok I1 hN hi hx r1 (fun s2 I2 => ⟨x1, _, H1, I2, r1, k _ _ q1⟩) hf)
theorem set_is {σ : L2.St} {v w : V} (h : (σ.set i (some v))[i]? = some (some w)) : w = v := by
 rw [List.getElem?_set] at h
 rw [if_pos rfl] at h
 split at h
 · exact (Option.some.inj (Option.some.inj h)).symm
 · cases h
theorem pss_ifNC {op : CmpOp} {r : R2} (hN : X.N.Nodup) (hi : X.N[i]? = some x) (hx : Loc X.env.scope x) (he : PE X e te) (ho : OpR X (compareOp op) r) (hb : PE X b tb) (hm : behindInMarks op b = false) (hp : PSs X p t) (hq : PSs X q u) (hr : PSs X rest tr)
   (hf : X.fn x = true ∨ X.env.scope.names.lookup x = some .local := by first | exact .inl rfl | exact .inr rfl | assumption) :
   PSs X (.If (.Compare (.NamedExpr (.Name x p1) e p2) [op] [b] p3) p q p4 :: rest) (tSeq (tAsg te (gName i)) (tSeq (tIfS (tTest (tOp r (tVar i) tb)) t u) tr)) := by
 refine ⟨fun pins s σ H D I h => ?_⟩
 refine (pss_cons (ps_ifW (ptw_cmp ho (pew_namedM hN hi hx he hf) hb hm) hp hq) hr).run pins s σ H D I ?_
 refine ⟨_, h, fun v H1 g => ?_⟩
 obtain ⟨w, ew, g⟩ := (show ∃ w, (σ.set i (some v))[i]? = some (some w) ∧ _ from g)
 obtain rfl := set_is ew
 exact g
end
section
variable {K : PySem.W.Frag} {H : Hp} {Q : VK} {v : V}
end
end G
namespace G
open PySem PySem.Spec PyProof.Rows L2
section
variable {K : PySem.W.Frag} {σ : L2.St} {H : Hp} {Q : VK} {v u : V} {F : List Addr} {α β : Type} {τ : Ty α}
end
end G
namespace G
open PySem PySem.Spec PyProof.Rows L2
section
variable {K : PySem.W.Frag} {σ : L2.St} {H : Hp} {Q : VK} {v u : V} {F F2 : List Addr} {α : Type} {τ : Ty α} {n : Nat} {i : Int}
end
end G
namespace L2
open PySem PySem.Spec PyProof.Rows
def DictB (P : Program) (w : World) (h : Heap) (a : Addr) (xs : List (List Key × Addr × Value)) : Prop := xs.length ≤ sizeLine ∧ (a == sysModules) = false ∧
 ∃ (o : Obj) (es : Array DictEntry) (ep : Nat), h.get? a = some o ∧ o.ExactDict ∧ o.data = .dict es ep ∧ es.toList = xs.map (entryOfKey (tupleKind (mixKind P w))) ∧ (xs.map (·.1)).Nodup
def DictBO (P : Program) (w : World) (a : Addr) (xs : List (List Key × Addr × Value)) : HO := .ext fun h => DictB P w h a xs
section
variable {X : Cx} {pins : List (Addr × Obj)} {σ : St} {H : Hp} {s : Shared} {a b : Addr} {xs : List (List Key × Addr × Value)} {k : List Key}
end
section
variable {X : Cx}
end
section
variable {X : Cx}
end
section
variable {prog : Program} {w : World} {A : Around} {R : Result → Shared → Prop} {s : Shared} {elt t0 i0 t1 i1 : Expr} {ifs0 ifs1 : List Expr} {scope : Scope} {pos : Pos} {it acc : Value} {env : Env}
end
section
variable {X : Cx}
end
end L2
namespace L2
open PySem PySem.Spec PyProof.Rows
section
variable {X : Cx} {pins : List (Addr × Obj)} {σ : St} {H : Hp} {s : Shared} {d : Addr} {o : Obj} {xs : List (List Key × Addr × Value)}
end
section
variable {P : Program} {w : World} {K : PySem.W.Frag} {tg : Expr} {d : Addr} {o : Obj} {es : Array DictEntry} {ep : Nat} {xs : List (List Key × Addr × Value)} {vs : List V}
end
section
variable {X : Cx} {P : Program} {w : World} {K : PySem.W.Frag} {tg e : Expr} {td : TE} {apos cpos : Pos}
end
section
variable {X : Cx} {P : Program} {w : World} {K : PySem.W.Frag} {td : TE} {pos : Pos}
end
end L2
namespace G
open PySem PySem.Spec PyProof.Rows L2
abbrev Ent := List L2.Key × Addr × Value
def kk (x : Int × Int) : List L2.Key := [.inl x.1, .inl x.2]
section
variable {K : PySem.W.Frag} {H H' : Hp} {β γ : Type} {υ : Ty β} {q : Ent} {x : (Int × Int) × β}
def EntR (K : PySem.W.Frag) (H : Hp) (υ : Ty β) (q : Ent) (x : (Int × Int) × β) : Prop := q.1 = kk x.1 ∧ SqT K H q.2.1 ((kk x.1).map kV) ∧ ∃ v, RelV v q.2.2 ∧ υ.rep K H [] v x.2
theorem EntR.keep (r : EntR K H υ q x) (k : ∀ b o, H b = some o → Froz o → H' b = some o) : EntR K H' υ q x := by
 obtain ⟨e, s, v, rv, r⟩ := r
 exact ⟨e, SqT.keeps s k, v, rv, υ.keep r fun b o hb z => k b o hb (z.elim (fun y => nomatch y) id)⟩
theorem EntR.chg {M : List Addr} (r : EntR K H υ q x) (c : Chg M H H') : EntR K H' υ q x := r.keep fun b o h z => c.keep b o h (.inr z)
end
def yFd {β : Type} (P : Program) (w : World) (υ : Ty β) : Ty (List ((Int × Int) × β)) where
 rep K H F v d := F = [] ∧ ∃ a o xs, v = .ref a ∧ H a = some (.frz o (DictBO P w a xs)) ∧ Paired (EntR K H υ) xs d
 keep {K H H' F v d} h k := by
   obtain ⟨f, a, o, xs, e, g, r⟩ := h
   exact ⟨f, a, o, xs, e, k a _ g (.inr trivial), Paired.mapP r fun _ _ z => EntR.keep z fun b o hb f => k b o hb (.inr f)⟩
 dom {K H F v d} h b m := by rw [h.1] at m; cases m
section
variable {P : Program} {w : World} {K : PySem.W.Frag} {σ σ' : L2.St} {H H' : Hp} {F Fk Fu D0 : List Addr} {ta tb te tk tv : TE} {tt : TT} {v u z : V} {α β γ : Type} {τ : Ty α} {υ : Ty β} {Q : VK} {D : Ends} {g : TG} {ws : List Nat} {xs : List Ent} {d d' : List ((Int × Int) × β)} {k : Int × Int} {x : β}
end
structure FdAt {β : Type} (P : Program) (w : World) (υ : Ty β) (K : PySem.W.Frag) (a : Addr) (o : Obj) (xs : List Ent) (d : List ((Int × Int) × β)) (H : Hp) : Prop where
 g : H a = some (.frz o (DictBO P w a xs))
 ps : Paired (EntR K H υ) xs d
theorem FdAt.of {β : Type} {P : Program} {w : World} {υ : Ty β} {K : PySem.W.Frag} {H : Hp} {F : List Addr} {v : V} {d : List ((Int × Int) × β)} (r : (yFd P w υ).rep K H F v d) : ∃ a o xs, v = .ref a ∧ FdAt P w υ K a o xs d H := by
 obtain ⟨f, a, o, xs, e, g, ps⟩ := r
 exact ⟨a, o, xs, e, g, ps⟩
theorem FdAt.chg {β : Type} {P : Program} {w : World} {υ : Ty β} {K : PySem.W.Frag} {a : Addr} {o : Obj} {xs : List Ent} {d : List ((Int × Int) × β)} {M : List Addr} {H H' : Hp} (r : FdAt P w υ K a o xs d H) (c : Chg M H H') : FdAt P w υ K a o xs d H' := ⟨c.keep _ _ r.g (.inr trivial), Paired.mapP r.ps fun _ _ z => z.chg c⟩
section
variable {P : Program} {w : World} {K : PySem.W.Frag} {σ σ' : L2.St} {H H' H0 : Hp} {F Fk Fu M0 : List Addr} {ta tb te tk tv : TE} {tt : TT} {v u z : V} {α β γ : Type} {τ : Ty α} {υ : Ty β} {ω : Ty γ} {Q : VK} {D : Ends} {g : TG} {ws : List Nat} {xs : List Ent} {d d' : List ((Int × Int) × β)} {k : Int × Int} {x : β}
end
end G
namespace L2
open PySem PySem.Spec PyProof.Rows
section
variable {X : Cx}
end
end L2
namespace G
open PySem PySem.Spec PyProof.Rows L2
section
variable {P : Program} {w : World} {K : PySem.W.Frag} {σ σ' : L2.St} {H H' : Hp} {F Fk Fu : List Addr} {ta tb te : TE} {tt tt1 : TT} {v u z : V} {α β γ : Type} {τ : Ty α} {υ : Ty β} {ω : Ty γ} {Q : VK} {g g1 : TG} {ws ws1 : List Nat} {xs ys : List (Int × Int)} {d : Int × Int}
def ll (x : Int × Int) : List Int := [x.1, x.2]
end
end G
namespace G
open PySem PySem.Spec PyProof.Rows L2
section
variable {P : Program} {w : World} {K : PySem.W.Frag} {σ σ' : L2.St} {H H' : Hp} {F Fk Fu : List Addr} {ta : TA} {te : TE} {tt : TT} {v u z : V} {α β γ : Type} {τ : Ty α} {υ : Ty β} {ω : Ty γ} {Q : VK} {D : Ends} {g : TG} {ws : List Nat}
end
end G
namespace G
open PySem PySem.Spec PyProof.Rows L2
section
variable {P : Program} {w : World} {K : PySem.W.Frag} {σ σ' : L2.St} {H H' : Hp} {F Fk Fu : List Addr} {ta : TA} {te : TE} {tt : TT} {v u z : V} {α β γ : Type} {τ : Ty α} {υ : Ty β} {ω : Ty γ} {Q : VK} {D : Ends} {g : TG} {ws : List Nat}
end
end G
namespace G
open PySem PySem.Spec PyProof.Rows L2
end G
namespace G
open PySem PySem.Spec PyProof.Rows L2
section
variable {P : Program} {w : World} {K : PySem.W.Frag} {σ σ' : L2.St} {H H' : Hp} {F Fi Fk Fu : List Addr} {ta tb : TE} {v u z : V} {α β γ : Type} {τ : Ty α} {i : Int} {Q : VK}
end
end G
namespace G
open PySem PySem.Spec PyProof.Rows L2
end G
namespace G
open PySem PySem.Spec PyProof.Rows L2
end G
namespace L2
open PySem PySem.Spec PyProof.Rows ItX
section
variable {X : Cx} {C f : Addr} {fd : FuncData} {k : Nat} {ps : List Str} {sp : Sp}
end
end L2
namespace G
open PySem PySem.Spec PyProof.Rows L2
section
variable {X : Cx} {K : PySem.W.Frag} {σ : L2.St} {H : Hp} {F : List Addr} {v x y : V} {Q : VK} {C : Addr} {ns : List Str} {α β : Type} {ts : Tys β} {τ : Ty α} {te ta tb : TE} {tm : Str → TS} {D : Ends} {a : List Nat}
end
end G
namespace G
open PySem PySem.Spec PyProof.Rows L2
section
variable {X : Cx} {K : PySem.W.Frag} {σ : L2.St} {H : Hp} {F F2 : List Addr} {v u : V} {Q : VK} {α β : Type} {τ : Ty α} {xs ys zs : List α} {lo hi : Option Int}
end
end G
namespace PySem
namespace ErrI_index
open PySem.W PySem.Calls PyProof.Rows PySem.HandSPX
open PySem.ErrX (ldX one_size)
def eA (p1 p2 : Pos) : Arguments := { posonlyargs := [], args := [{ arg := "self", annotation := none, pos := p1 }, { arg := "index", annotation := none, pos := p2 }], vararg := none, kwonlyargs := [], kw_defaults := [], kwarg := none, defaults := [] }
def eB (m : Str) (p0 p1 p2 p3 p4 p5 p6 p7 q1 q2 q3 q4 r5 r6 : Pos) : List Stmt :=
 [.Expr (.Call (.Attribute (.Call (.Name "super" p0) [] [] p1) "__init__" p2) [.BinOp (.Constant (.str m) 0 p3) .Add (.Call (.Name "str" r5) [.Name "index" p4] [] r6) p5] [] p6) p7, .Assign [.Attribute (.Name "self" q1) "index" q2] (.Name "index" q3) q4]
def eS : Scope := { kind := .function, names := [(PySem.Str.ofString "self", .local), (PySem.Str.ofString "index", .local), (PySem.Str.ofString "__class__", .free), (PySem.Str.ofString "super", .globalImplicit), (PySem.Str.ofString "str", .globalImplicit)], isGenerator := false, isCoroutine := false, more := [] }
structure ErrTxt (P : Program) (K : Frag) (mg : Str → Option Value) (x qual : Str) (st : Stmt) (C fI : Addr) : Prop where
 gC : mg x = some (.ref C)
 cls : ∃ nm q N bs bm sn sub ab col dd k0 k1 k2 k3 k5, K.lookup C = some (excClassObj nm q C N bs bm true sn sub ab col dd k0 k1 k2 k3 k5 "ValueError.__new__") ∧ refsVE bm = true
 sa : findIn K (.ref C) "__setattr__" = some (some (.builtin "object.__setattr__"))
 ga : findIn K (.ref C) "__getattribute__" = some (some (.builtin "BaseException.__getattribute__"))
 gg : findIn K (.ref C) "__getattr__" = some none
 noN : findIn K (.ref C) "index" = some none
 iC : findIn K (.ref C) "__init__" = some (some (.ref fI))
 tC : typeIn K (.ref fI) = some (.type "function")
 kC : keepIn K (.ref C) = true
 exC : subIn K (.ref C) (.type "BaseException") = some true
 veC : subIn K (.ref C) (.type "ValueError") = some true
 tyC : typeIn K (.ref C) = some (.type "type")
 hdC : hasDictIn K C = true
 mroC : mroIn K C (.ref C) = some true
 sup : ks_superIn K C C "__init__" = some (some (.builtin "ValueError.__init__"))
 opq : nsIn K cStatics "thirdparty.any" = some none
 nsu : mg "super" = none
 nst : mg "str" = none
 top : (P.main.scope.names.lookup ("super" : Str)).isSome = false
 fn : ∃ (oc : Value) (od : Option Addr) (doc pm : Value) (an : Option Addr) (cda : Addr) (ct : Value) (cc : Addr) (osl : Array (Option Value)),
   K.lookup fI = some ⟨oc, od, .func (ksFn "__init__" qual (L2.defArgs st) (L2.defBody st) (L2.defScope st) .none .none doc pm an (.ref cda) ct cc), osl⟩ ∧ codeIn K (.ref cda) qual = true ∧
   (∃ (ccl : Value) (cdd : Option Addr) (vs : Array Value) (ccs : Array (Option Value)) (file : Str) (tf : Tok), K.lookup cda = some ⟨ccl, cdd, .fields vs, ccs⟩ ∧ vs[2]? = some (.str file tf) ∧ ((P.main.file : Str) == file) = true) ∧
   ∃ (cl : Value) (cld : Option Addr) (csl : Array (Option Value)), K.lookup cc = some ⟨cl, cld, .cell (some (.ref C)), csl⟩
 shape : ∃ (msg : Str) (r1 r2 p0 p1 p2 p3 p4 p5 p6 p7 q1 q2 q3 q4 r5 r6 : Pos), L2.defArgs st = eA r1 r2 ∧ L2.defBody st = eB msg p0 p1 p2 p3 p4 p5 p6 p7 q1 q2 q3 q4 r5 r6 ∧ L2.defScope st = eS ∧ msg.length ≤ 100 ∧
   ∀ L f cda cc : Addr, ∃ pl : Sem Bool, eval (.Call (.Attribute (.Call (.Name "super" p0) [] [] p1) "__init__" p2) [.BinOp (.Constant (.str msg) 0 p3) .Add (.Call (.Name "str" r5) [.Name "index" p4] [] r6) p5] [] p6) (ksEnv qual eS L f (.ref cda) cc) = (do
     let ov ← attributeBase (.Call (.Name "super" p0) [] [] p1) "__init__" (ksEnv qual eS L f (.ref cda) cc) (eval (.Call (.Name "super" p0) [] [] p1) (ksEnv qual eS L f (.ref cda) cc))
     standAt p2.atName
     let (f', first) ← holding [ov] (getMethod ov "__init__" pl)
     callWith p6 f' first (backTo p6 (starEach [.BinOp (.Constant (.str msg) 0 p3) .Add (.Call (.Name "str" r5) [.Name "index" p4] [] r6) p5] (ksEnv qual eS L f (.ref cda) cc))) [])
structure InitEnd (h h' : Heap) (x C dx : Addr) (v : Value) : Prop where
 keep : ∀ b o, b ≠ x → h.get? b = some o → h'.get? b = some o
 obj : ∃ t1 : Addr, h'.get? x = some { cls := .ref C, dict := some dx, data := .fields #[.ref t1, .none, .none, .none, .bool false, .none] }
 dbig : h.objs.size ≤ dx
 dne : dx ≠ x
 ns : h'.Ns1 dx (fun y => if y = "index" then some v else none)
section
variable {prog : Program} {w : World} {A : Around} {E : Value → Shared → Prop} {R : Result → Shared → Prop} {s : Shared} {K : Frag} {mg mb : Str → Option Value} {C fI : Addr} {cn qual : Str} {st : Stmt}
theorem err_init (T : ErrTxt prog K mg cn qual st C fI) {x t0 : Addr} {y : Int} {ty : Tok} (X : K.In s.heap) (hg : s.heap.Ns mainGlobals mg) (hb : s.heap.Ns builtinsNs mb) (hbs : mb "super" = bootBuiltins "super") (hbt : mb "str" = bootBuiltins "str") (hlim : s.heap.NoLimit) (hx : s.heap.get? x = some (excO C t0)) (hnx : K.lookup x = none) (hy : y.natAbs.log2 < 1920) (hroom : A.depth < recursionLimit)
   (hq : ∀ h' tk dx, InitEnd s.heap h' x C dx (.int y ty) → R (.ok (.ret .none)) { s with heap := h', toks := tk }) :
   codeAny (model prog w) A (.call (.ref fI) ⟨[.ref x, .int y ty], []⟩) R s := by
 obtain ⟨oc, od, doc, pm, an, cda, ct, cc, osl, ho, hcd, ⟨ccl, cdd, vs, ccs, file, tf, hcode, hvs, hfile⟩, cl, cld, csl, hcell⟩ := T.fn
 obtain ⟨msg, r1, r2, p0, p1, p2, p3, p4, p5, p6, p7, q1, q2, q3, q4, r5, r6, eA', eB', eS', hml, hev⟩ := T.shape
 rw [eA', eB', eS'] at ho
 obtain ⟨nm, q, N, bs, bm, sn, sub, ab, col, dd, k0, k1, k2, k3, k5, hC, hbm⟩ := T.cls
 have hcl : clsIn K C = some { name := nm, bases := bs, mro := .ref C :: bm, ns := N, qualname := q, hasDict := true, slotNames := sn, subclasses := sub, abstract := ab, collection := col, hasDel := false } := by unfold clsIn; rw [hC] <;> rfl
 refine ks_codeAny_call_defAt (fd := ksFn "__init__" qual (eA r1 r2) (eB msg p0 p1 p2 p3 p4 p5 p6 p7 q1 q2 q3 q4 r5 r6) eS .none .none doc pm an (.ref cda) ct cc) (body := eB msg p0 p1 p2 p3 p4 p5 p6 p7 q1 q2 q3 q4 r5 r6) (binds := [("self", .ref x), ("index", .int y ty)]) hroom (X _ _ ho) rfl hlim (codeRec_of X hcd) rfl (BindsTo.of_eq (by first | rfl | with_unfolding_all rfl)) (fun z hz => by revert z; show ∀ z ∈ eS.names, z.2 ≠ NameKind.cell; decide) (by first | decide | (intro z hz; simp at hz; rcases hz with rfl | rfl <;> rfl)) (fun h₁ hns k => ?_) rfl rfl rfl
 have X₁ : K.In h₁ := X.keeps k
 have hx₁ := k _ _ hx
 show wpAt (model prog w) _ _ (execs (_ :: _) (ksEnv qual eS s.heap.objs.size fI (.ref cda) cc)) _ _ _
 obtain ⟨pl, he⟩ := hev s.heap.objs.size fI cda cc
 refine ks_wpAt_execs_cons (ks_wpAt_Expr_any (ks_wpAt_MethodCall (pl := pl) (he := he) ?_))
 obtain ⟨oD, hD1, hD2⟩ : ∃ oD, h₁.get? C = some oD ∧ oD.data = .cls { name := nm, bases := bs, mro := .ref C :: bm, ns := N, qualname := q, hasDict := true, slotNames := sn, subclasses := sub, abstract := ab, collection := col, hasDel := false } := ⟨_, X₁ _ _ hC, rfl⟩
 refine ks_wpAt_super_base (env := ksEnv qual eS s.heap.objs.size fI (.ref cda) cc) rfl rfl rfl rfl (X₁ _ _ ho) rfl rfl rfl (X₁ _ _ hcode) rfl hvs hfile T.top ?_
 refine ks_loadName_global rfl rfl (loadGlobal_builtin (env := ksEnv qual eS s.heap.objs.size fI (.ref cda) cc) (hg.keeps k) T.nsu (hb.keeps k) (hbs.trans (by decide +kernel)) ⟨rfl, ?_⟩)
 refine wpAny_loadName_free rfl rfl rfl ⟨_, X₁ _ _ hcell, rfl⟩ ?_
 refine wpAny_loadName_local rfl rfl hns (v := .ref x) rfl ?_
 refine ks_wpAny_isType_cls hD1 hD2 ⟨rfl, ?_⟩
 refine ks_wpAny_call_super hD1 hD2 hx₁ rfl (fun c e => by cases e) (looks_mroIn X₁ T.mroC) (fun h₂ hso k₂ => ?_)
 have X₂ : K.In h₂ := X₁.keeps k₂
 have hx₂ := k₂ _ _ hx₁
 have I₂ : InstAt h₂ x (excO C t0) C none := ⟨hx₂, rfl, rfl, trivial⟩
 have hI : Looks (model prog w) h₂ (isInstance (.ref x) (.type "ValueError")) true := I₂.type.andThen (looks_subIn X₂ T.veC)
 have hsup := T.sup
 unfold ks_superIn at hsup
 rw [hcl] at hsup
 refine kxs_getMethod kxs_ValueError hso (looks_opaque X₂ T.opq) (l₀ := .ref C :: bm) (fun A Q E s k q => wpAny_bind ((looks_clsIn X₂ hcl) A _ E s k (wpAny_pure q))) rfl X₂ hsup hI (ks_ne X₂ I₂ hcl) rfl ?_
 have k₃ : ∀ b o, h₂.get? b = some o → (h₂.push (kxs_mw "ValueError.__init__" x)).get? b = some o := fun b o e => Heap.get?_push_of_some _ e
 have hu : (h₂.push (kxs_mw "ValueError.__init__" x)).get? h₂.objs.size = some (kxs_mw "ValueError.__init__" x) := Heap.get?_push_at rfl rfl
 have hns₃ : (h₂.push (kxs_mw "ValueError.__init__" x)).Ns s.heap.objs.size (fun y' => ([("self", .ref x), ("index", Value.int y ty)] : List (Str × Value)).reverse.lookup y') := (hns.keeps k₂).keeps k₃
 refine kxs_callWith (i := "ValueError.__init__") (x := x) rfl (evalArgs_plain (args_cons (wpAny_BinOp (wpAny_Constant_str ?_)) rfl))
 refine wpAny_Call_Name_kw (wpAny_Name (ks_loadName_global (env := ksEnv qual eS s.heap.objs.size fI (.ref cda) cc) rfl rfl (loadGlobal_builtin (env := ksEnv qual eS s.heap.objs.size fI (.ref cda) cc) (((hg.keeps k).keeps k₂).keeps k₃) T.nst (((hb.keeps k).keeps k₂).keeps k₃) (v := .type "str") (hbt.trans (by decide +kernel)) ?_)) (by decide))
 refine PyProof.Rows.callWith_type1 (args_cons (ldX hns₃ (v := .int y ty) rfl ?_) rfl)
 refine args_nil (P.str_of_int hy ?_)
 refine add_str (fun t' tk => args_nil ⟨hu, ?_⟩) (by
   rw [ofString_length, sizeLine_eq]
   have := int_text_length_le (k := 1920) (by decide) hy
   omega)
 refine wpAny_call (codeAny_of_tree ?_)
 show wpAny _ _ (callAny (.ref h₂.objs.size) ⟨_, []⟩) _ _ _
 simp only [callAny]
 refine wpAny_bind (wpAny_load hu ?_)
 simp only [kxs_mw, show (Value.type "method-wrapper" == Value.type "method" || Value.type "method-wrapper" == Value.type "builtin_function_or_method" || Value.type "method-wrapper" == Value.type "method-wrapper") = true by decide, if_true]
 refine KFB.if_so (by decide) ?_
 refine wpAny_bind (check_bound_init F.excBase_ValueError.toExcCallFacts (k₃ _ _ (X₂ _ _ hC)) (k₃ _ _ hx₂) rfl ?_)
 refine wpAny_bind (wpAny_pure (wpAny_pure ?_))
 refine ⟨plainId_quiet F.excBase_ValueError.init.plain _, codeAny_builtin F.excBase_ValueError.initEntry ?_⟩
 refine exc_init_tree (cls := .ref C) (t0 := t0) (dv := none) (c2 := .none) (c3 := .none) (b4 := .bool false) (k₃ _ _ hx₂) (by rw [sizeLine_eq]; exact (by decide : 1 ≤ 16777216)) fun h₄ k₄ hx₄ _ => ?_
 show wpAt (model prog w) _ _ (execs (_ :: _) (ksEnv qual eS s.heap.objs.size fI (.ref cda) cc)) _ _ _
 have kk : ∀ b o, b ≠ x → s.heap.get? b = some o → h₄.get? b = some o := fun b o hb e => k₄ b o hb (k₃ b o (k₂ b o (k b o e)))
 have hLx : s.heap.objs.size ≠ x := Nat.ne_of_gt (Heap.lt_size hx)
 have hns₄ : h₄.Ns s.heap.objs.size (fun y' => ([("self", .ref x), ("index", Value.int y ty)] : List (Str × Value)).reverse.lookup y') := by
   obtain ⟨oL, es, ep, hL, r⟩ := hns₃
   exact ⟨oL, es, ep, k₄ _ _ hLx hL, r⟩
 have X₄ : K.In h₄ := fun b o e => k₄ b o (fun z => by
   rw [z, hnx] at e; cases e) (k₃ b o (X₂ _ _ e))
 refine wpAt_of_wpAny (wpAny_execs_cons (plainObj_wpAny_Assign_Attribute ?_))
 refine ldX (v := .int y ty) hns₄ rfl (ldX (v := .ref x) hns₄ rfl ?_)
 refine set_plain X₄ (ox := excO C (h₂.push (kxs_mw "ValueError.__init__" x)).objs.size) (od := none) ⟨hx₄, rfl, rfl, trivial⟩ T.sa ?_
 refine exc_osa X₄ hx₄ hcl (show refsVE (.ref C :: bm) = true from hbm) rfl T.noN (fun h₅ tk₅ dx k₅ dn dne hx₅ hn₅ => ?_)
 show wpAny _ _ (execs _ _) _ _ _
 have z : s.heap.objs.size < h₄.objs.size := hns₄.lt
 exact wpAny_execs_nil (hq h₅ tk₅ dx ⟨fun b o hb e => k₅ b o hb (kk b o hb e), ⟨_, hx₅⟩, Nat.le_of_lt (Nat.lt_of_lt_of_le z dn), dne, hn₅⟩)
structure OwnMade (h h' : Heap) (e C d : Addr) (v : Value) : Prop where
 keep : ∀ b o, h.get? b = some o → h'.get? b = some o
 new : h.objs.size ≤ e
 obj : ∃ oe vs, h'.get? e = some oe ∧ oe.cls = .ref C ∧ oe.dict = some d ∧ oe.data = .fields vs ∧ vs[1]? = some .none ∧ vs[2]? = some .none
 dbig : h.objs.size ≤ d
 dne : d ≠ e
 ns : h'.Ns1 d (fun y => if y = "index" then some v else none)
theorem err_made (T : ErrTxt prog K mg cn qual st C fI) {y : Int} {ty : Tok} (X : K.In s.heap) (hg : s.heap.Ns mainGlobals mg) (hb : s.heap.Ns builtinsNs mb) (hbs : mb "super" = bootBuiltins "super") (hbt : mb "str" = bootBuiltins "str") (hlim : s.heap.NoLimit) (hy : y.natAbs.log2 < 1920) (hroom : A.depth + 1 < recursionLimit)
   (hq : ∀ h' tk e d, OwnMade s.heap h' e C d (.int y ty) → R (.ok (.ret (.ref e))) { s with heap := h', toks := tk }) :
   codeAny (model prog w) A (.call (.ref C) ⟨[.int y ty], []⟩) R s := by
 obtain ⟨nm, q, N, bs, bm, sn, sub, ab, col, dd, k0, k1, k2, k3, k5, hC, hbm⟩ := T.cls
 obtain ⟨hp, g, dr, tk, os⟩ := s
 have k : ∀ b o, hp.get? b = some o → ((hp.push (kdv_tup [.int y ty])).push (excO C hp.objs.size)).get? b = some o := fun b o e => Heap.get?_push_of_some _ (Heap.get?_push_of_some _ e)
 have hget : ((hp.push (kdv_tup [.int y ty])).push (excO C hp.objs.size)).get? (hp.objs.size + 1) = some (excO C hp.objs.size) := by heap_get
 have hnx : K.lookup (hp.objs.size + 1) = none := by
   cases e : K.lookup (hp.objs.size + 1) with
   | none => rfl
   | some o =>
     have z : hp.get? (hp.objs.size + 1) = some o := X _ _ e
     exact absurd (Nat.lt_of_succ_lt (Heap.lt_size z)) (Nat.lt_irrefl _)
 refine call_own F.excBase_ValueError (fun X => refsVE_contains X bm hbm) (X _ _ hC) (looks_findIn X T.iC) (fun self => bind_fn X self T.tC) (one_size _) ?_
 refine err_init (s := ⟨(hp.push (kdv_tup [.int y ty])).push (excO C hp.objs.size), g, dr, tk, os⟩) T (X.keeps k) (hg.keeps k) (hb.keeps k) hbs hbt (hlim.keeps k) hget hnx hy ?_ fun h' tk' dx ⟨k', ⟨t1, hx⟩, dn, dne, hns⟩ => ?_
 · show A.depth + 1 < recursionLimit
   exact hroom
 · have old : ∀ b o, hp.get? b = some o → h'.get? b = some o := fun b o e => k' b o (Nat.ne_of_lt (Nat.lt_succ_of_lt (Heap.lt_size e))) (k b o e)
   have z : hp.objs.size + 1 + 1 ≤ dx := by
     first
       | (simpa only [Heap.size_push] using dn)
       | exact dn
       | (have q := dn; rw [Heap.size_push, Heap.size_push] at q; exact q)
   exact ⟨rfl, hq h' tk' (hp.objs.size + 1) dx ⟨old, Nat.le_succ _, ⟨_, _, hx, rfl, rfl, rfl, rfl, rfl⟩, Nat.le_trans (Nat.le_trans (Nat.le_succ _) (Nat.le_succ _)) z, dne, hns⟩⟩
end
end ErrI_index
end PySem
namespace L2
open PySem PySem.Spec PyProof.Rows
section
variable {X : Cx} {C fI : Addr} {cn qual : Str} {st : Stmt}
end
end L2
namespace G
open PySem PySem.Spec PyProof.Rows L2
section
variable {K : PySem.W.Frag} {σ : L2.St} {H : Hp} {Q : VK} {C : Addr} {D : Ends} {t2 : TS} {te : TE} {a dd : Addr} {fs : List (Str × V)}
end
end G
namespace L2
open PySem PySem.Spec PyProof.Rows
section
variable {X : Cx} {CX : CXT} {k : Nat} {f : Addr} {fd : FuncData} {ps : List Str} {sp : Sp} {dvs : List V} {ds : List Value} {E : St → XK}
end
end L2
namespace G
open PySem PySem.Spec PyProof.Rows L2
end G
namespace G
open PySem PySem.Spec PyProof.Rows L2
section
variable {X : Cx} {K : PySem.W.Frag} {σ : L2.St} {H : Hp} {F : List Addr} {v : V} {Q : VK} {m : Int} {α : Type} {τ : Ty α}
end
end G
namespace G
open PySem PySem.Spec PyProof.Rows L2
end G
namespace G
open PySem PySem.Spec PyProof.Rows L2
end G
namespace G
open PySem PySem.Spec PyProof.Rows L2 GenW
section
variable {F : GF}
end
end G
namespace G
open PySem PySem.Spec PyProof.Rows L2
section
variable {K : PySem.W.Frag} {σ : L2.St} {H : Hp} {F : List Addr} {v : V} {Q : VK} {α β : Type} {τ : Ty α} {υ : Ty β}
end
end G
namespace PySem.SeqAt
open AutoSeq1 (wpAny_loadPart')
open MeetsSeq MeetsSeq2 MeetsSeq3 SeqRoads2
section
variable {prog : Program} {w : World}
end
end PySem.SeqAt
namespace L2
open PySem PySem.Spec PyProof.Rows
section
variable {X : Cx}
end
end L2
namespace G
open PySem PySem.Spec PyProof.Rows L2
section
variable {K : PySem.W.Frag} {σ : L2.St} {H : Hp} {F F1 F2 : List Addr} {v u : V} {Q : VK}
end
end G
namespace G
open PySem PySem.Spec PyProof.Rows L2
end G
namespace G
open PySem PySem.Spec PyProof.Rows L2
end G
namespace G
open PySem PySem.Spec PyProof.Rows L2
section
variable {K : PySem.W.Frag} {σ : L2.St} {H : Hp} {ta tb : TE} {i j r : Int} {Q : VK}
end
section
variable {X : Cx}
end
end G
namespace G
open PySem PySem.Spec PyProof.Rows L2 GenW
section
variable {F : GF}
end
section
variable {K : PySem.W.Frag} {σ : L2.St} {H : Hp} {ta : TE} {i : Int}
end
end G
namespace G
open PySem PySem.Spec PyProof.Rows L2
theorem u1 {n : Nat} (h : n + 64 < cLine) : n + 1 < cLine := by omega
section
variable {K : PySem.W.Frag} {σ : L2.St} {H : Hp} {F : List Addr} {v : V} {Q : VK} {td ty tv tx : TE} {xs ys : List (Int × Int)} {k d z : Int} {t2 : TS} {D : Ends}
end
end G
namespace L2
open PySem PySem.Spec PyProof.Rows
section
variable {X : Cx}
end
end L2
namespace G
open PySem PySem.Spec PyProof.Rows L2
section
variable {K : PySem.W.Frag} {P : Program} {w : World} {H : Hp} {Q : VK}
end
end G
namespace G
open PySem PySem.Spec PyProof.Rows L2
section
variable {X : Cx} {K : PySem.W.Frag} {P : Program} {w : World}
variable {σ : L2.St} {H : Hp} {F Fk : List Addr} {v u : V} {to ti te : TE} {d d' : List ((Int × Int) × Int)} {k : Int × Int} {i j z : Int} {t2 : TS} {D : Ends}
end
section
variable {K : PySem.W.Frag} {H : Hp} {F : List Addr} {v : V} {α : Type} {τ : Ty α} {Q : VK}
end
end G
namespace L2
open PySem PySem.Spec PyProof.Rows
section
variable {P : Program} {w : World} {K : PySem.W.Frag} {tg : Expr} {d : Addr} {o : Obj} {es : Array DictEntry} {ep : Nat} {xs : List (List Key × Addr × Value)} {vs : List V}
end
section
variable {X : Cx} {P : Program} {w : World} {K : PySem.W.Frag} {tg e : Expr} {td : TE} {apos cpos : Pos}
end
end L2
namespace G
open PySem PySem.Spec PyProof.Rows L2
section
variable {P : Program} {w : World} {K : PySem.W.Frag} {σ : L2.St} {H : Hp} {F : List Addr} {te : TE} {tt : TT} {v : V} {α β : Type} {τ : Ty α} {υ : Ty β} {Q : VK} {g : TG} {ws : List Nat} {xs : List Ent} {d : List ((Int × Int) × β)}
end
end G
namespace G
open PySem PySem.Spec PyProof.Rows L2
section
variable {K : PySem.W.Frag} {H : Hp} {F : List Addr} {v : V} {α : Type} {τ : Ty α}
end
end G
namespace L2
open PySem PySem.Spec PyProof.Rows
section
variable {X : Cx}
end
end L2
namespace PySem
namespace ErrI_ship
open PySem.W PySem.Calls PyProof.Rows PySem.HandSPX
open PySem.ErrX (ldX one_size)
def eA (p1 p2 : Pos) : Arguments := { posonlyargs := [], args := [{ arg := "self", annotation := none, pos := p1 }, { arg := "ship", annotation := none, pos := p2 }], vararg := none, kwonlyargs := [], kw_defaults := [], kwarg := none, defaults := [] }
def eB (m : Str) (p0 p1 p2 p3 p4 p5 p6 p7 q1 q2 q3 q4 r5 r6 : Pos) : List Stmt :=
 [.Expr (.Call (.Attribute (.Call (.Name "super" p0) [] [] p1) "__init__" p2) [.BinOp (.Constant (.str m) 0 p3) .Add (.Call (.Name "str" r5) [.Name "ship" p4] [] r6) p5] [] p6) p7, .Assign [.Attribute (.Name "self" q1) "ship" q2] (.Name "ship" q3) q4]
def eS : Scope := { kind := .function, names := [(PySem.Str.ofString "self", .local), (PySem.Str.ofString "ship", .local), (PySem.Str.ofString "__class__", .free), (PySem.Str.ofString "super", .globalImplicit), (PySem.Str.ofString "str", .globalImplicit)], isGenerator := false, isCoroutine := false, more := [] }
structure ErrTxt (P : Program) (K : Frag) (mg : Str → Option Value) (x qual : Str) (st : Stmt) (C fI : Addr) : Prop where
 gC : mg x = some (.ref C)
 cls : ∃ nm q N bs bm sn sub ab col dd k0 k1 k2 k3 k5, K.lookup C = some (excClassObj nm q C N bs bm true sn sub ab col dd k0 k1 k2 k3 k5 "ValueError.__new__") ∧ refsVE bm = true
 sa : findIn K (.ref C) "__setattr__" = some (some (.builtin "object.__setattr__"))
 ga : findIn K (.ref C) "__getattribute__" = some (some (.builtin "BaseException.__getattribute__"))
 gg : findIn K (.ref C) "__getattr__" = some none
 noN : findIn K (.ref C) "ship" = some none
 iC : findIn K (.ref C) "__init__" = some (some (.ref fI))
 tC : typeIn K (.ref fI) = some (.type "function")
 kC : keepIn K (.ref C) = true
 exC : subIn K (.ref C) (.type "BaseException") = some true
 veC : subIn K (.ref C) (.type "ValueError") = some true
 tyC : typeIn K (.ref C) = some (.type "type")
 hdC : hasDictIn K C = true
 mroC : mroIn K C (.ref C) = some true
 sup : ks_superIn K C C "__init__" = some (some (.builtin "ValueError.__init__"))
 opq : nsIn K cStatics "thirdparty.any" = some none
 nsu : mg "super" = none
 nst : mg "str" = none
 top : (P.main.scope.names.lookup ("super" : Str)).isSome = false
 fn : ∃ (oc : Value) (od : Option Addr) (doc pm : Value) (an : Option Addr) (cda : Addr) (ct : Value) (cc : Addr) (osl : Array (Option Value)),
   K.lookup fI = some ⟨oc, od, .func (ksFn "__init__" qual (L2.defArgs st) (L2.defBody st) (L2.defScope st) .none .none doc pm an (.ref cda) ct cc), osl⟩ ∧ codeIn K (.ref cda) qual = true ∧
   (∃ (ccl : Value) (cdd : Option Addr) (vs : Array Value) (ccs : Array (Option Value)) (file : Str) (tf : Tok), K.lookup cda = some ⟨ccl, cdd, .fields vs, ccs⟩ ∧ vs[2]? = some (.str file tf) ∧ ((P.main.file : Str) == file) = true) ∧
   ∃ (cl : Value) (cld : Option Addr) (csl : Array (Option Value)), K.lookup cc = some ⟨cl, cld, .cell (some (.ref C)), csl⟩
 shape : ∃ (msg : Str) (r1 r2 p0 p1 p2 p3 p4 p5 p6 p7 q1 q2 q3 q4 r5 r6 : Pos), L2.defArgs st = eA r1 r2 ∧ L2.defBody st = eB msg p0 p1 p2 p3 p4 p5 p6 p7 q1 q2 q3 q4 r5 r6 ∧ L2.defScope st = eS ∧ msg.length ≤ 100 ∧
   ∀ L f cda cc : Addr, ∃ pl : Sem Bool, eval (.Call (.Attribute (.Call (.Name "super" p0) [] [] p1) "__init__" p2) [.BinOp (.Constant (.str msg) 0 p3) .Add (.Call (.Name "str" r5) [.Name "ship" p4] [] r6) p5] [] p6) (ksEnv qual eS L f (.ref cda) cc) = (do
     let ov ← attributeBase (.Call (.Name "super" p0) [] [] p1) "__init__" (ksEnv qual eS L f (.ref cda) cc) (eval (.Call (.Name "super" p0) [] [] p1) (ksEnv qual eS L f (.ref cda) cc))
     standAt p2.atName
     let (f', first) ← holding [ov] (getMethod ov "__init__" pl)
     callWith p6 f' first (backTo p6 (starEach [.BinOp (.Constant (.str msg) 0 p3) .Add (.Call (.Name "str" r5) [.Name "ship" p4] [] r6) p5] (ksEnv qual eS L f (.ref cda) cc))) [])
structure InitEnd (h h' : Heap) (x C dx : Addr) (v : Value) : Prop where
 keep : ∀ b o, b ≠ x → h.get? b = some o → h'.get? b = some o
 obj : ∃ t1 : Addr, h'.get? x = some { cls := .ref C, dict := some dx, data := .fields #[.ref t1, .none, .none, .none, .bool false, .none] }
 dbig : h.objs.size ≤ dx
 dne : dx ≠ x
 ns : h'.Ns1 dx (fun y => if y = "ship" then some v else none)
section
variable {prog : Program} {w : World} {A : Around} {E : Value → Shared → Prop} {R : Result → Shared → Prop} {s : Shared} {K : Frag} {mg mb : Str → Option Value} {C fI : Addr} {cn qual : Str} {st : Stmt}
theorem err_init (T : ErrTxt prog K mg cn qual st C fI) {x t0 : Addr} {y : Int} {ty : Tok} (X : K.In s.heap) (hg : s.heap.Ns mainGlobals mg) (hb : s.heap.Ns builtinsNs mb) (hbs : mb "super" = bootBuiltins "super") (hbt : mb "str" = bootBuiltins "str") (hlim : s.heap.NoLimit) (hx : s.heap.get? x = some (excO C t0)) (hnx : K.lookup x = none) (hy : y.natAbs.log2 < 1920) (hroom : A.depth < recursionLimit)
   (hq : ∀ h' tk dx, InitEnd s.heap h' x C dx (.int y ty) → R (.ok (.ret .none)) { s with heap := h', toks := tk }) :
   codeAny (model prog w) A (.call (.ref fI) ⟨[.ref x, .int y ty], []⟩) R s := by
 obtain ⟨oc, od, doc, pm, an, cda, ct, cc, osl, ho, hcd, ⟨ccl, cdd, vs, ccs, file, tf, hcode, hvs, hfile⟩, cl, cld, csl, hcell⟩ := T.fn
 obtain ⟨msg, r1, r2, p0, p1, p2, p3, p4, p5, p6, p7, q1, q2, q3, q4, r5, r6, eA', eB', eS', hml, hev⟩ := T.shape
 rw [eA', eB', eS'] at ho
 obtain ⟨nm, q, N, bs, bm, sn, sub, ab, col, dd, k0, k1, k2, k3, k5, hC, hbm⟩ := T.cls
 have hcl : clsIn K C = some { name := nm, bases := bs, mro := .ref C :: bm, ns := N, qualname := q, hasDict := true, slotNames := sn, subclasses := sub, abstract := ab, collection := col, hasDel := false } := by unfold clsIn; rw [hC] <;> rfl
 refine ks_codeAny_call_defAt (fd := ksFn "__init__" qual (eA r1 r2) (eB msg p0 p1 p2 p3 p4 p5 p6 p7 q1 q2 q3 q4 r5 r6) eS .none .none doc pm an (.ref cda) ct cc) (body := eB msg p0 p1 p2 p3 p4 p5 p6 p7 q1 q2 q3 q4 r5 r6) (binds := [("self", .ref x), ("ship", .int y ty)]) hroom (X _ _ ho) rfl hlim (codeRec_of X hcd) rfl (BindsTo.of_eq (by first | rfl | with_unfolding_all rfl)) (fun z hz => by revert z; show ∀ z ∈ eS.names, z.2 ≠ NameKind.cell; decide) (by first | decide | (intro z hz; simp at hz; rcases hz with rfl | rfl <;> rfl)) (fun h₁ hns k => ?_) rfl rfl rfl
 have X₁ : K.In h₁ := X.keeps k
 have hx₁ := k _ _ hx
 show wpAt (model prog w) _ _ (execs (_ :: _) (ksEnv qual eS s.heap.objs.size fI (.ref cda) cc)) _ _ _
 obtain ⟨pl, he⟩ := hev s.heap.objs.size fI cda cc
 refine ks_wpAt_execs_cons (ks_wpAt_Expr_any (ks_wpAt_MethodCall (pl := pl) (he := he) ?_))
 obtain ⟨oD, hD1, hD2⟩ : ∃ oD, h₁.get? C = some oD ∧ oD.data = .cls { name := nm, bases := bs, mro := .ref C :: bm, ns := N, qualname := q, hasDict := true, slotNames := sn, subclasses := sub, abstract := ab, collection := col, hasDel := false } := ⟨_, X₁ _ _ hC, rfl⟩
 refine ks_wpAt_super_base (env := ksEnv qual eS s.heap.objs.size fI (.ref cda) cc) rfl rfl rfl rfl (X₁ _ _ ho) rfl rfl rfl (X₁ _ _ hcode) rfl hvs hfile T.top ?_
 refine ks_loadName_global rfl rfl (loadGlobal_builtin (env := ksEnv qual eS s.heap.objs.size fI (.ref cda) cc) (hg.keeps k) T.nsu (hb.keeps k) (hbs.trans (by decide +kernel)) ⟨rfl, ?_⟩)
 refine wpAny_loadName_free rfl rfl rfl ⟨_, X₁ _ _ hcell, rfl⟩ ?_
 refine wpAny_loadName_local rfl rfl hns (v := .ref x) rfl ?_
 refine ks_wpAny_isType_cls hD1 hD2 ⟨rfl, ?_⟩
 refine ks_wpAny_call_super hD1 hD2 hx₁ rfl (fun c e => by cases e) (looks_mroIn X₁ T.mroC) (fun h₂ hso k₂ => ?_)
 have X₂ : K.In h₂ := X₁.keeps k₂
 have hx₂ := k₂ _ _ hx₁
 have I₂ : InstAt h₂ x (excO C t0) C none := ⟨hx₂, rfl, rfl, trivial⟩
 have hI : Looks (model prog w) h₂ (isInstance (.ref x) (.type "ValueError")) true := I₂.type.andThen (looks_subIn X₂ T.veC)
 have hsup := T.sup
 unfold ks_superIn at hsup
 rw [hcl] at hsup
 refine kxs_getMethod kxs_ValueError hso (looks_opaque X₂ T.opq) (l₀ := .ref C :: bm) (fun A Q E s k q => wpAny_bind ((looks_clsIn X₂ hcl) A _ E s k (wpAny_pure q))) rfl X₂ hsup hI (ks_ne X₂ I₂ hcl) rfl ?_
 have k₃ : ∀ b o, h₂.get? b = some o → (h₂.push (kxs_mw "ValueError.__init__" x)).get? b = some o := fun b o e => Heap.get?_push_of_some _ e
 have hu : (h₂.push (kxs_mw "ValueError.__init__" x)).get? h₂.objs.size = some (kxs_mw "ValueError.__init__" x) := Heap.get?_push_at rfl rfl
 have hns₃ : (h₂.push (kxs_mw "ValueError.__init__" x)).Ns s.heap.objs.size (fun y' => ([("self", .ref x), ("ship", Value.int y ty)] : List (Str × Value)).reverse.lookup y') := (hns.keeps k₂).keeps k₃
 refine kxs_callWith (i := "ValueError.__init__") (x := x) rfl (evalArgs_plain (args_cons (wpAny_BinOp (wpAny_Constant_str ?_)) rfl))
 refine wpAny_Call_Name_kw (wpAny_Name (ks_loadName_global (env := ksEnv qual eS s.heap.objs.size fI (.ref cda) cc) rfl rfl (loadGlobal_builtin (env := ksEnv qual eS s.heap.objs.size fI (.ref cda) cc) (((hg.keeps k).keeps k₂).keeps k₃) T.nst (((hb.keeps k).keeps k₂).keeps k₃) (v := .type "str") (hbt.trans (by decide +kernel)) ?_)) (by decide))
 refine PyProof.Rows.callWith_type1 (args_cons (ldX hns₃ (v := .int y ty) rfl ?_) rfl)
 refine args_nil (P.str_of_int hy ?_)
 refine add_str (fun t' tk => args_nil ⟨hu, ?_⟩) (by
   rw [ofString_length, sizeLine_eq]
   have := int_text_length_le (k := 1920) (by decide) hy
   omega)
 refine wpAny_call (codeAny_of_tree ?_)
 show wpAny _ _ (callAny (.ref h₂.objs.size) ⟨_, []⟩) _ _ _
 simp only [callAny]
 refine wpAny_bind (wpAny_load hu ?_)
 simp only [kxs_mw, show (Value.type "method-wrapper" == Value.type "method" || Value.type "method-wrapper" == Value.type "builtin_function_or_method" || Value.type "method-wrapper" == Value.type "method-wrapper") = true by decide, if_true]
 refine KFB.if_so (by decide) ?_
 refine wpAny_bind (check_bound_init F.excBase_ValueError.toExcCallFacts (k₃ _ _ (X₂ _ _ hC)) (k₃ _ _ hx₂) rfl ?_)
 refine wpAny_bind (wpAny_pure (wpAny_pure ?_))
 refine ⟨plainId_quiet F.excBase_ValueError.init.plain _, codeAny_builtin F.excBase_ValueError.initEntry ?_⟩
 refine exc_init_tree (cls := .ref C) (t0 := t0) (dv := none) (c2 := .none) (c3 := .none) (b4 := .bool false) (k₃ _ _ hx₂) (by rw [sizeLine_eq]; exact (by decide : 1 ≤ 16777216)) fun h₄ k₄ hx₄ _ => ?_
 show wpAt (model prog w) _ _ (execs (_ :: _) (ksEnv qual eS s.heap.objs.size fI (.ref cda) cc)) _ _ _
 have kk : ∀ b o, b ≠ x → s.heap.get? b = some o → h₄.get? b = some o := fun b o hb e => k₄ b o hb (k₃ b o (k₂ b o (k b o e)))
 have hLx : s.heap.objs.size ≠ x := Nat.ne_of_gt (Heap.lt_size hx)
 have hns₄ : h₄.Ns s.heap.objs.size (fun y' => ([("self", .ref x), ("ship", Value.int y ty)] : List (Str × Value)).reverse.lookup y') := by
   obtain ⟨oL, es, ep, hL, r⟩ := hns₃
   exact ⟨oL, es, ep, k₄ _ _ hLx hL, r⟩
 have X₄ : K.In h₄ := fun b o e => k₄ b o (fun z => by
   rw [z, hnx] at e; cases e) (k₃ b o (X₂ _ _ e))
 refine wpAt_of_wpAny (wpAny_execs_cons (plainObj_wpAny_Assign_Attribute ?_))
 refine ldX (v := .int y ty) hns₄ rfl (ldX (v := .ref x) hns₄ rfl ?_)
 refine set_plain X₄ (ox := excO C (h₂.push (kxs_mw "ValueError.__init__" x)).objs.size) (od := none) ⟨hx₄, rfl, rfl, trivial⟩ T.sa ?_
 refine exc_osa X₄ hx₄ hcl (show refsVE (.ref C :: bm) = true from hbm) rfl T.noN (fun h₅ tk₅ dx k₅ dn dne hx₅ hn₅ => ?_)
 show wpAny _ _ (execs _ _) _ _ _
 have z : s.heap.objs.size < h₄.objs.size := hns₄.lt
 exact wpAny_execs_nil (hq h₅ tk₅ dx ⟨fun b o hb e => k₅ b o hb (kk b o hb e), ⟨_, hx₅⟩, Nat.le_of_lt (Nat.lt_of_lt_of_le z dn), dne, hn₅⟩)
structure OwnMade (h h' : Heap) (e C d : Addr) (v : Value) : Prop where
 keep : ∀ b o, h.get? b = some o → h'.get? b = some o
 new : h.objs.size ≤ e
 obj : ∃ oe vs, h'.get? e = some oe ∧ oe.cls = .ref C ∧ oe.dict = some d ∧ oe.data = .fields vs ∧ vs[1]? = some .none ∧ vs[2]? = some .none
 dbig : h.objs.size ≤ d
 dne : d ≠ e
 ns : h'.Ns1 d (fun y => if y = "ship" then some v else none)
theorem err_made (T : ErrTxt prog K mg cn qual st C fI) {y : Int} {ty : Tok} (X : K.In s.heap) (hg : s.heap.Ns mainGlobals mg) (hb : s.heap.Ns builtinsNs mb) (hbs : mb "super" = bootBuiltins "super") (hbt : mb "str" = bootBuiltins "str") (hlim : s.heap.NoLimit) (hy : y.natAbs.log2 < 1920) (hroom : A.depth + 1 < recursionLimit)
   (hq : ∀ h' tk e d, OwnMade s.heap h' e C d (.int y ty) → R (.ok (.ret (.ref e))) { s with heap := h', toks := tk }) :
   codeAny (model prog w) A (.call (.ref C) ⟨[.int y ty], []⟩) R s := by
 obtain ⟨nm, q, N, bs, bm, sn, sub, ab, col, dd, k0, k1, k2, k3, k5, hC, hbm⟩ := T.cls
 obtain ⟨hp, g, dr, tk, os⟩ := s
 have k : ∀ b o, hp.get? b = some o → ((hp.push (kdv_tup [.int y ty])).push (excO C hp.objs.size)).get? b = some o := fun b o e => Heap.get?_push_of_some _ (Heap.get?_push_of_some _ e)
 have hget : ((hp.push (kdv_tup [.int y ty])).push (excO C hp.objs.size)).get? (hp.objs.size + 1) = some (excO C hp.objs.size) := by heap_get
 have hnx : K.lookup (hp.objs.size + 1) = none := by
   cases e : K.lookup (hp.objs.size + 1) with
   | none => rfl
   | some o =>
     have z : hp.get? (hp.objs.size + 1) = some o := X _ _ e
     exact absurd (Nat.lt_of_succ_lt (Heap.lt_size z)) (Nat.lt_irrefl _)
 refine call_own F.excBase_ValueError (fun X => refsVE_contains X bm hbm) (X _ _ hC) (looks_findIn X T.iC) (fun self => bind_fn X self T.tC) (one_size _) ?_
 refine err_init (s := ⟨(hp.push (kdv_tup [.int y ty])).push (excO C hp.objs.size), g, dr, tk, os⟩) T (X.keeps k) (hg.keeps k) (hb.keeps k) hbs hbt (hlim.keeps k) hget hnx hy ?_ fun h' tk' dx ⟨k', ⟨t1, hx⟩, dn, dne, hns⟩ => ?_
 · show A.depth + 1 < recursionLimit
   exact hroom
 · have old : ∀ b o, hp.get? b = some o → h'.get? b = some o := fun b o e => k' b o (Nat.ne_of_lt (Nat.lt_succ_of_lt (Heap.lt_size e))) (k b o e)
   have z : hp.objs.size + 1 + 1 ≤ dx := by
     first
       | (simpa only [Heap.size_push] using dn)
       | exact dn
       | (have q := dn; rw [Heap.size_push, Heap.size_push] at q; exact q)
   exact ⟨rfl, hq h' tk' (hp.objs.size + 1) dx ⟨old, Nat.le_succ _, ⟨_, _, hx, rfl, rfl, rfl, rfl, rfl⟩, Nat.le_trans (Nat.le_trans (Nat.le_succ _) (Nat.le_succ _)) z, dne, hns⟩⟩
end
end ErrI_ship
end PySem
namespace L2
open PySem PySem.Spec PyProof.Rows
section
variable {X : Cx} {C fI : Addr} {cn qual : Str} {st : Stmt}
end
end L2
namespace G
open PySem PySem.Spec PyProof.Rows L2
section
variable {K : PySem.W.Frag} {σ : L2.St} {H : Hp} {Q : VK} {C : Addr} {D : Ends} {t2 : TS} {te : TE} {a dd : Addr} {fs : List (Str × V)}
end
end G
namespace PySem
namespace ErrI_number
open PySem.W PySem.Calls PyProof.Rows PySem.HandSPX
open PySem.ErrX (ldX one_size)
def eA (p1 p2 : Pos) : Arguments := { posonlyargs := [], args := [{ arg := "self", annotation := none, pos := p1 }, { arg := "number", annotation := none, pos := p2 }], vararg := none, kwonlyargs := [], kw_defaults := [], kwarg := none, defaults := [] }
def eB (m : Str) (p0 p1 p2 p3 p4 p5 p6 p7 q1 q2 q3 q4 r5 r6 : Pos) : List Stmt :=
 [.Expr (.Call (.Attribute (.Call (.Name "super" p0) [] [] p1) "__init__" p2) [.BinOp (.Constant (.str m) 0 p3) .Add (.Call (.Name "str" r5) [.Name "number" p4] [] r6) p5] [] p6) p7, .Assign [.Attribute (.Name "self" q1) "number" q2] (.Name "number" q3) q4]
def eS : Scope := { kind := .function, names := [(PySem.Str.ofString "self", .local), (PySem.Str.ofString "number", .local), (PySem.Str.ofString "__class__", .free), (PySem.Str.ofString "super", .globalImplicit), (PySem.Str.ofString "str", .globalImplicit)], isGenerator := false, isCoroutine := false, more := [] }
structure ErrTxt (P : Program) (K : Frag) (mg : Str → Option Value) (x qual : Str) (st : Stmt) (C fI : Addr) : Prop where
 gC : mg x = some (.ref C)
 cls : ∃ nm q N bs bm sn sub ab col dd k0 k1 k2 k3 k5, K.lookup C = some (excClassObj nm q C N bs bm true sn sub ab col dd k0 k1 k2 k3 k5 "ValueError.__new__") ∧ refsVE bm = true
 sa : findIn K (.ref C) "__setattr__" = some (some (.builtin "object.__setattr__"))
 ga : findIn K (.ref C) "__getattribute__" = some (some (.builtin "BaseException.__getattribute__"))
 gg : findIn K (.ref C) "__getattr__" = some none
 noN : findIn K (.ref C) "number" = some none
 iC : findIn K (.ref C) "__init__" = some (some (.ref fI))
 tC : typeIn K (.ref fI) = some (.type "function")
 kC : keepIn K (.ref C) = true
 exC : subIn K (.ref C) (.type "BaseException") = some true
 veC : subIn K (.ref C) (.type "ValueError") = some true
 tyC : typeIn K (.ref C) = some (.type "type")
 hdC : hasDictIn K C = true
 mroC : mroIn K C (.ref C) = some true
 sup : ks_superIn K C C "__init__" = some (some (.builtin "ValueError.__init__"))
 opq : nsIn K cStatics "thirdparty.any" = some none
 nsu : mg "super" = none
 nst : mg "str" = none
 top : (P.main.scope.names.lookup ("super" : Str)).isSome = false
 fn : ∃ (oc : Value) (od : Option Addr) (doc pm : Value) (an : Option Addr) (cda : Addr) (ct : Value) (cc : Addr) (osl : Array (Option Value)),
   K.lookup fI = some ⟨oc, od, .func (ksFn "__init__" qual (L2.defArgs st) (L2.defBody st) (L2.defScope st) .none .none doc pm an (.ref cda) ct cc), osl⟩ ∧ codeIn K (.ref cda) qual = true ∧
   (∃ (ccl : Value) (cdd : Option Addr) (vs : Array Value) (ccs : Array (Option Value)) (file : Str) (tf : Tok), K.lookup cda = some ⟨ccl, cdd, .fields vs, ccs⟩ ∧ vs[2]? = some (.str file tf) ∧ ((P.main.file : Str) == file) = true) ∧
   ∃ (cl : Value) (cld : Option Addr) (csl : Array (Option Value)), K.lookup cc = some ⟨cl, cld, .cell (some (.ref C)), csl⟩
 shape : ∃ (msg : Str) (r1 r2 p0 p1 p2 p3 p4 p5 p6 p7 q1 q2 q3 q4 r5 r6 : Pos), L2.defArgs st = eA r1 r2 ∧ L2.defBody st = eB msg p0 p1 p2 p3 p4 p5 p6 p7 q1 q2 q3 q4 r5 r6 ∧ L2.defScope st = eS ∧ msg.length ≤ 100 ∧
   ∀ L f cda cc : Addr, ∃ pl : Sem Bool, eval (.Call (.Attribute (.Call (.Name "super" p0) [] [] p1) "__init__" p2) [.BinOp (.Constant (.str msg) 0 p3) .Add (.Call (.Name "str" r5) [.Name "number" p4] [] r6) p5] [] p6) (ksEnv qual eS L f (.ref cda) cc) = (do
     let ov ← attributeBase (.Call (.Name "super" p0) [] [] p1) "__init__" (ksEnv qual eS L f (.ref cda) cc) (eval (.Call (.Name "super" p0) [] [] p1) (ksEnv qual eS L f (.ref cda) cc))
     standAt p2.atName
     let (f', first) ← holding [ov] (getMethod ov "__init__" pl)
     callWith p6 f' first (backTo p6 (starEach [.BinOp (.Constant (.str msg) 0 p3) .Add (.Call (.Name "str" r5) [.Name "number" p4] [] r6) p5] (ksEnv qual eS L f (.ref cda) cc))) [])
structure InitEnd (h h' : Heap) (x C dx : Addr) (v : Value) : Prop where
 keep : ∀ b o, b ≠ x → h.get? b = some o → h'.get? b = some o
 obj : ∃ t1 : Addr, h'.get? x = some { cls := .ref C, dict := some dx, data := .fields #[.ref t1, .none, .none, .none, .bool false, .none] }
 dbig : h.objs.size ≤ dx
 dne : dx ≠ x
 ns : h'.Ns1 dx (fun y => if y = "number" then some v else none)
section
variable {prog : Program} {w : World} {A : Around} {E : Value → Shared → Prop} {R : Result → Shared → Prop} {s : Shared} {K : Frag} {mg mb : Str → Option Value} {C fI : Addr} {cn qual : Str} {st : Stmt}
theorem err_init (T : ErrTxt prog K mg cn qual st C fI) {x t0 : Addr} {y : Int} {ty : Tok} (X : K.In s.heap) (hg : s.heap.Ns mainGlobals mg) (hb : s.heap.Ns builtinsNs mb) (hbs : mb "super" = bootBuiltins "super") (hbt : mb "str" = bootBuiltins "str") (hlim : s.heap.NoLimit) (hx : s.heap.get? x = some (excO C t0)) (hnx : K.lookup x = none) (hy : y.natAbs.log2 < 1920) (hroom : A.depth < recursionLimit)
   (hq : ∀ h' tk dx, InitEnd s.heap h' x C dx (.int y ty) → R (.ok (.ret .none)) { s with heap := h', toks := tk }) :
   codeAny (model prog w) A (.call (.ref fI) ⟨[.ref x, .int y ty], []⟩) R s := by
 obtain ⟨oc, od, doc, pm, an, cda, ct, cc, osl, ho, hcd, ⟨ccl, cdd, vs, ccs, file, tf, hcode, hvs, hfile⟩, cl, cld, csl, hcell⟩ := T.fn
 obtain ⟨msg, r1, r2, p0, p1, p2, p3, p4, p5, p6, p7, q1, q2, q3, q4, r5, r6, eA', eB', eS', hml, hev⟩ := T.shape
 rw [eA', eB', eS'] at ho
 obtain ⟨nm, q, N, bs, bm, sn, sub, ab, col, dd, k0, k1, k2, k3, k5, hC, hbm⟩ := T.cls
 have hcl : clsIn K C = some { name := nm, bases := bs, mro := .ref C :: bm, ns := N, qualname := q, hasDict := true, slotNames := sn, subclasses := sub, abstract := ab, collection := col, hasDel := false } := by unfold clsIn; rw [hC] <;> rfl
 refine ks_codeAny_call_defAt (fd := ksFn "__init__" qual (eA r1 r2) (eB msg p0 p1 p2 p3 p4 p5 p6 p7 q1 q2 q3 q4 r5 r6) eS .none .none doc pm an (.ref cda) ct cc) (body := eB msg p0 p1 p2 p3 p4 p5 p6 p7 q1 q2 q3 q4 r5 r6) (binds := [("self", .ref x), ("number", .int y ty)]) hroom (X _ _ ho) rfl hlim (codeRec_of X hcd) rfl (BindsTo.of_eq (by first | rfl | with_unfolding_all rfl)) (fun z hz => by revert z; show ∀ z ∈ eS.names, z.2 ≠ NameKind.cell; decide) (by first | decide | (intro z hz; simp at hz; rcases hz with rfl | rfl <;> rfl)) (fun h₁ hns k => ?_) rfl rfl rfl
 have X₁ : K.In h₁ := X.keeps k
 have hx₁ := k _ _ hx
 show wpAt (model prog w) _ _ (execs (_ :: _) (ksEnv qual eS s.heap.objs.size fI (.ref cda) cc)) _ _ _
 obtain ⟨pl, he⟩ := hev s.heap.objs.size fI cda cc
 refine ks_wpAt_execs_cons (ks_wpAt_Expr_any (ks_wpAt_MethodCall (pl := pl) (he := he) ?_))
 obtain ⟨oD, hD1, hD2⟩ : ∃ oD, h₁.get? C = some oD ∧ oD.data = .cls { name := nm, bases := bs, mro := .ref C :: bm, ns := N, qualname := q, hasDict := true, slotNames := sn, subclasses := sub, abstract := ab, collection := col, hasDel := false } := ⟨_, X₁ _ _ hC, rfl⟩
 refine ks_wpAt_super_base (env := ksEnv qual eS s.heap.objs.size fI (.ref cda) cc) rfl rfl rfl rfl (X₁ _ _ ho) rfl rfl rfl (X₁ _ _ hcode) rfl hvs hfile T.top ?_
 refine ks_loadName_global rfl rfl (loadGlobal_builtin (env := ksEnv qual eS s.heap.objs.size fI (.ref cda) cc) (hg.keeps k) T.nsu (hb.keeps k) (hbs.trans (by decide +kernel)) ⟨rfl, ?_⟩)
 refine wpAny_loadName_free rfl rfl rfl ⟨_, X₁ _ _ hcell, rfl⟩ ?_
 refine wpAny_loadName_local rfl rfl hns (v := .ref x) rfl ?_
 refine ks_wpAny_isType_cls hD1 hD2 ⟨rfl, ?_⟩
 refine ks_wpAny_call_super hD1 hD2 hx₁ rfl (fun c e => by cases e) (looks_mroIn X₁ T.mroC) (fun h₂ hso k₂ => ?_)
 have X₂ : K.In h₂ := X₁.keeps k₂
 have hx₂ := k₂ _ _ hx₁
 have I₂ : InstAt h₂ x (excO C t0) C none := ⟨hx₂, rfl, rfl, trivial⟩
 have hI : Looks (model prog w) h₂ (isInstance (.ref x) (.type "ValueError")) true := I₂.type.andThen (looks_subIn X₂ T.veC)
 have hsup := T.sup
 unfold ks_superIn at hsup
 rw [hcl] at hsup
 refine kxs_getMethod kxs_ValueError hso (looks_opaque X₂ T.opq) (l₀ := .ref C :: bm) (fun A Q E s k q => wpAny_bind ((looks_clsIn X₂ hcl) A _ E s k (wpAny_pure q))) rfl X₂ hsup hI (ks_ne X₂ I₂ hcl) rfl ?_
 have k₃ : ∀ b o, h₂.get? b = some o → (h₂.push (kxs_mw "ValueError.__init__" x)).get? b = some o := fun b o e => Heap.get?_push_of_some _ e
 have hu : (h₂.push (kxs_mw "ValueError.__init__" x)).get? h₂.objs.size = some (kxs_mw "ValueError.__init__" x) := Heap.get?_push_at rfl rfl
 have hns₃ : (h₂.push (kxs_mw "ValueError.__init__" x)).Ns s.heap.objs.size (fun y' => ([("self", .ref x), ("number", Value.int y ty)] : List (Str × Value)).reverse.lookup y') := (hns.keeps k₂).keeps k₃
 refine kxs_callWith (i := "ValueError.__init__") (x := x) rfl (evalArgs_plain (args_cons (wpAny_BinOp (wpAny_Constant_str ?_)) rfl))
 refine wpAny_Call_Name_kw (wpAny_Name (ks_loadName_global (env := ksEnv qual eS s.heap.objs.size fI (.ref cda) cc) rfl rfl (loadGlobal_builtin (env := ksEnv qual eS s.heap.objs.size fI (.ref cda) cc) (((hg.keeps k).keeps k₂).keeps k₃) T.nst (((hb.keeps k).keeps k₂).keeps k₃) (v := .type "str") (hbt.trans (by decide +kernel)) ?_)) (by decide))
 refine PyProof.Rows.callWith_type1 (args_cons (ldX hns₃ (v := .int y ty) rfl ?_) rfl)
 refine args_nil (P.str_of_int hy ?_)
 refine add_str (fun t' tk => args_nil ⟨hu, ?_⟩) (by
   rw [ofString_length, sizeLine_eq]
   have := int_text_length_le (k := 1920) (by decide) hy
   omega)
 refine wpAny_call (codeAny_of_tree ?_)
 show wpAny _ _ (callAny (.ref h₂.objs.size) ⟨_, []⟩) _ _ _
 simp only [callAny]
 refine wpAny_bind (wpAny_load hu ?_)
 simp only [kxs_mw, show (Value.type "method-wrapper" == Value.type "method" || Value.type "method-wrapper" == Value.type "builtin_function_or_method" || Value.type "method-wrapper" == Value.type "method-wrapper") = true by decide, if_true]
 refine KFB.if_so (by decide) ?_
 refine wpAny_bind (check_bound_init F.excBase_ValueError.toExcCallFacts (k₃ _ _ (X₂ _ _ hC)) (k₃ _ _ hx₂) rfl ?_)
 refine wpAny_bind (wpAny_pure (wpAny_pure ?_))
 refine ⟨plainId_quiet F.excBase_ValueError.init.plain _, codeAny_builtin F.excBase_ValueError.initEntry ?_⟩
 refine exc_init_tree (cls := .ref C) (t0 := t0) (dv := none) (c2 := .none) (c3 := .none) (b4 := .bool false) (k₃ _ _ hx₂) (by rw [sizeLine_eq]; exact (by decide : 1 ≤ 16777216)) fun h₄ k₄ hx₄ _ => ?_
 show wpAt (model prog w) _ _ (execs (_ :: _) (ksEnv qual eS s.heap.objs.size fI (.ref cda) cc)) _ _ _
 have kk : ∀ b o, b ≠ x → s.heap.get? b = some o → h₄.get? b = some o := fun b o hb e => k₄ b o hb (k₃ b o (k₂ b o (k b o e)))
 have hLx : s.heap.objs.size ≠ x := Nat.ne_of_gt (Heap.lt_size hx)
 have hns₄ : h₄.Ns s.heap.objs.size (fun y' => ([("self", .ref x), ("number", Value.int y ty)] : List (Str × Value)).reverse.lookup y') := by
   obtain ⟨oL, es, ep, hL, r⟩ := hns₃
   exact ⟨oL, es, ep, k₄ _ _ hLx hL, r⟩
 have X₄ : K.In h₄ := fun b o e => k₄ b o (fun z => by
   rw [z, hnx] at e; cases e) (k₃ b o (X₂ _ _ e))
 refine wpAt_of_wpAny (wpAny_execs_cons (plainObj_wpAny_Assign_Attribute ?_))
 refine ldX (v := .int y ty) hns₄ rfl (ldX (v := .ref x) hns₄ rfl ?_)
 refine set_plain X₄ (ox := excO C (h₂.push (kxs_mw "ValueError.__init__" x)).objs.size) (od := none) ⟨hx₄, rfl, rfl, trivial⟩ T.sa ?_
 refine exc_osa X₄ hx₄ hcl (show refsVE (.ref C :: bm) = true from hbm) rfl T.noN (fun h₅ tk₅ dx k₅ dn dne hx₅ hn₅ => ?_)
 show wpAny _ _ (execs _ _) _ _ _
 have z : s.heap.objs.size < h₄.objs.size := hns₄.lt
 exact wpAny_execs_nil (hq h₅ tk₅ dx ⟨fun b o hb e => k₅ b o hb (kk b o hb e), ⟨_, hx₅⟩, Nat.le_of_lt (Nat.lt_of_lt_of_le z dn), dne, hn₅⟩)
structure OwnMade (h h' : Heap) (e C d : Addr) (v : Value) : Prop where
 keep : ∀ b o, h.get? b = some o → h'.get? b = some o
 new : h.objs.size ≤ e
 obj : ∃ oe vs, h'.get? e = some oe ∧ oe.cls = .ref C ∧ oe.dict = some d ∧ oe.data = .fields vs ∧ vs[1]? = some .none ∧ vs[2]? = some .none
 dbig : h.objs.size ≤ d
 dne : d ≠ e
 ns : h'.Ns1 d (fun y => if y = "number" then some v else none)
theorem err_made (T : ErrTxt prog K mg cn qual st C fI) {y : Int} {ty : Tok} (X : K.In s.heap) (hg : s.heap.Ns mainGlobals mg) (hb : s.heap.Ns builtinsNs mb) (hbs : mb "super" = bootBuiltins "super") (hbt : mb "str" = bootBuiltins "str") (hlim : s.heap.NoLimit) (hy : y.natAbs.log2 < 1920) (hroom : A.depth + 1 < recursionLimit)
   (hq : ∀ h' tk e d, OwnMade s.heap h' e C d (.int y ty) → R (.ok (.ret (.ref e))) { s with heap := h', toks := tk }) :
   codeAny (model prog w) A (.call (.ref C) ⟨[.int y ty], []⟩) R s := by
 obtain ⟨nm, q, N, bs, bm, sn, sub, ab, col, dd, k0, k1, k2, k3, k5, hC, hbm⟩ := T.cls
 obtain ⟨hp, g, dr, tk, os⟩ := s
 have k : ∀ b o, hp.get? b = some o → ((hp.push (kdv_tup [.int y ty])).push (excO C hp.objs.size)).get? b = some o := fun b o e => Heap.get?_push_of_some _ (Heap.get?_push_of_some _ e)
 have hget : ((hp.push (kdv_tup [.int y ty])).push (excO C hp.objs.size)).get? (hp.objs.size + 1) = some (excO C hp.objs.size) := by heap_get
 have hnx : K.lookup (hp.objs.size + 1) = none := by
   cases e : K.lookup (hp.objs.size + 1) with
   | none => rfl
   | some o =>
     have z : hp.get? (hp.objs.size + 1) = some o := X _ _ e
     exact absurd (Nat.lt_of_succ_lt (Heap.lt_size z)) (Nat.lt_irrefl _)
 refine call_own F.excBase_ValueError (fun X => refsVE_contains X bm hbm) (X _ _ hC) (looks_findIn X T.iC) (fun self => bind_fn X self T.tC) (one_size _) ?_
 refine err_init (s := ⟨(hp.push (kdv_tup [.int y ty])).push (excO C hp.objs.size), g, dr, tk, os⟩) T (X.keeps k) (hg.keeps k) (hb.keeps k) hbs hbt (hlim.keeps k) hget hnx hy ?_ fun h' tk' dx ⟨k', ⟨t1, hx⟩, dn, dne, hns⟩ => ?_
 · show A.depth + 1 < recursionLimit
   exact hroom
 · have old : ∀ b o, hp.get? b = some o → h'.get? b = some o := fun b o e => k' b o (Nat.ne_of_lt (Nat.lt_succ_of_lt (Heap.lt_size e))) (k b o e)
   have z : hp.objs.size + 1 + 1 ≤ dx := by
     first
       | (simpa only [Heap.size_push] using dn)
       | exact dn
       | (have q := dn; rw [Heap.size_push, Heap.size_push] at q; exact q)
   exact ⟨rfl, hq h' tk' (hp.objs.size + 1) dx ⟨old, Nat.le_succ _, ⟨_, _, hx, rfl, rfl, rfl, rfl, rfl⟩, Nat.le_trans (Nat.le_trans (Nat.le_succ _) (Nat.le_succ _)) z, dne, hns⟩⟩
end
end ErrI_number
end PySem
namespace L2
open PySem PySem.Spec PyProof.Rows
section
variable {X : Cx} {C fI : Addr} {cn qual : Str} {st : Stmt}
end
end L2
namespace G
open PySem PySem.Spec PyProof.Rows L2
section
variable {K : PySem.W.Frag} {σ : L2.St} {H : Hp} {Q : VK} {C : Addr} {D : Ends} {t2 : TS} {te : TE} {a dd : Addr} {fs : List (Str × V)}
end
end G
namespace PySem
namespace ErrI_hour
open PySem.W PySem.Calls PyProof.Rows PySem.HandSPX
open PySem.ErrX (ldX one_size)
def eA (p1 p2 : Pos) : Arguments := { posonlyargs := [], args := [{ arg := "self", annotation := none, pos := p1 }, { arg := "hour", annotation := none, pos := p2 }], vararg := none, kwonlyargs := [], kw_defaults := [], kwarg := none, defaults := [] }
def eB (m : Str) (p0 p1 p2 p3 p4 p5 p6 p7 q1 q2 q3 q4 r5 r6 : Pos) : List Stmt :=
 [.Expr (.Call (.Attribute (.Call (.Name "super" p0) [] [] p1) "__init__" p2) [.BinOp (.Constant (.str m) 0 p3) .Add (.Call (.Name "str" r5) [.Name "hour" p4] [] r6) p5] [] p6) p7, .Assign [.Attribute (.Name "self" q1) "hour" q2] (.Name "hour" q3) q4]
def eS : Scope := { kind := .function, names := [(PySem.Str.ofString "self", .local), (PySem.Str.ofString "hour", .local), (PySem.Str.ofString "__class__", .free), (PySem.Str.ofString "super", .globalImplicit), (PySem.Str.ofString "str", .globalImplicit)], isGenerator := false, isCoroutine := false, more := [] }
structure ErrTxt (P : Program) (K : Frag) (mg : Str → Option Value) (x qual : Str) (st : Stmt) (C fI : Addr) : Prop where
 gC : mg x = some (.ref C)
 cls : ∃ nm q N bs bm sn sub ab col dd k0 k1 k2 k3 k5, K.lookup C = some (excClassObj nm q C N bs bm true sn sub ab col dd k0 k1 k2 k3 k5 "ValueError.__new__") ∧ refsVE bm = true
 sa : findIn K (.ref C) "__setattr__" = some (some (.builtin "object.__setattr__"))
 ga : findIn K (.ref C) "__getattribute__" = some (some (.builtin "BaseException.__getattribute__"))
 gg : findIn K (.ref C) "__getattr__" = some none
 noN : findIn K (.ref C) "hour" = some none
 iC : findIn K (.ref C) "__init__" = some (some (.ref fI))
 tC : typeIn K (.ref fI) = some (.type "function")
 kC : keepIn K (.ref C) = true
 exC : subIn K (.ref C) (.type "BaseException") = some true
 veC : subIn K (.ref C) (.type "ValueError") = some true
 tyC : typeIn K (.ref C) = some (.type "type")
 hdC : hasDictIn K C = true
 mroC : mroIn K C (.ref C) = some true
 sup : ks_superIn K C C "__init__" = some (some (.builtin "ValueError.__init__"))
 opq : nsIn K cStatics "thirdparty.any" = some none
 nsu : mg "super" = none
 nst : mg "str" = none
 top : (P.main.scope.names.lookup ("super" : Str)).isSome = false
 fn : ∃ (oc : Value) (od : Option Addr) (doc pm : Value) (an : Option Addr) (cda : Addr) (ct : Value) (cc : Addr) (osl : Array (Option Value)),
   K.lookup fI = some ⟨oc, od, .func (ksFn "__init__" qual (L2.defArgs st) (L2.defBody st) (L2.defScope st) .none .none doc pm an (.ref cda) ct cc), osl⟩ ∧ codeIn K (.ref cda) qual = true ∧
   (∃ (ccl : Value) (cdd : Option Addr) (vs : Array Value) (ccs : Array (Option Value)) (file : Str) (tf : Tok), K.lookup cda = some ⟨ccl, cdd, .fields vs, ccs⟩ ∧ vs[2]? = some (.str file tf) ∧ ((P.main.file : Str) == file) = true) ∧
   ∃ (cl : Value) (cld : Option Addr) (csl : Array (Option Value)), K.lookup cc = some ⟨cl, cld, .cell (some (.ref C)), csl⟩
 shape : ∃ (msg : Str) (r1 r2 p0 p1 p2 p3 p4 p5 p6 p7 q1 q2 q3 q4 r5 r6 : Pos), L2.defArgs st = eA r1 r2 ∧ L2.defBody st = eB msg p0 p1 p2 p3 p4 p5 p6 p7 q1 q2 q3 q4 r5 r6 ∧ L2.defScope st = eS ∧ msg.length ≤ 100 ∧
   ∀ L f cda cc : Addr, ∃ pl : Sem Bool, eval (.Call (.Attribute (.Call (.Name "super" p0) [] [] p1) "__init__" p2) [.BinOp (.Constant (.str msg) 0 p3) .Add (.Call (.Name "str" r5) [.Name "hour" p4] [] r6) p5] [] p6) (ksEnv qual eS L f (.ref cda) cc) = (do
     let ov ← attributeBase (.Call (.Name "super" p0) [] [] p1) "__init__" (ksEnv qual eS L f (.ref cda) cc) (eval (.Call (.Name "super" p0) [] [] p1) (ksEnv qual eS L f (.ref cda) cc))
     standAt p2.atName
     let (f', first) ← holding [ov] (getMethod ov "__init__" pl)
     callWith p6 f' first (backTo p6 (starEach [.BinOp (.Constant (.str msg) 0 p3) .Add (.Call (.Name "str" r5) [.Name "hour" p4] [] r6) p5] (ksEnv qual eS L f (.ref cda) cc))) [])
structure InitEnd (h h' : Heap) (x C dx : Addr) (v : Value) : Prop where
 keep : ∀ b o, b ≠ x → h.get? b = some o → h'.get? b = some o
 obj : ∃ t1 : Addr, h'.get? x = some { cls := .ref C, dict := some dx, data := .fields #[.ref t1, .none, .none, .none, .bool false, .none] }
 dbig : h.objs.size ≤ dx
 dne : dx ≠ x
 ns : h'.Ns1 dx (fun y => if y = "hour" then some v else none)
section
variable {prog : Program} {w : World} {A : Around} {E : Value → Shared → Prop} {R : Result → Shared → Prop} {s : Shared} {K : Frag} {mg mb : Str → Option Value} {C fI : Addr} {cn qual : Str} {st : Stmt}
theorem err_init (T : ErrTxt prog K mg cn qual st C fI) {x t0 : Addr} {y : Int} {ty : Tok} (X : K.In s.heap) (hg : s.heap.Ns mainGlobals mg) (hb : s.heap.Ns builtinsNs mb) (hbs : mb "super" = bootBuiltins "super") (hbt : mb "str" = bootBuiltins "str") (hlim : s.heap.NoLimit) (hx : s.heap.get? x = some (excO C t0)) (hnx : K.lookup x = none) (hy : y.natAbs.log2 < 1920) (hroom : A.depth < recursionLimit)
   (hq : ∀ h' tk dx, InitEnd s.heap h' x C dx (.int y ty) → R (.ok (.ret .none)) { s with heap := h', toks := tk }) :
   codeAny (model prog w) A (.call (.ref fI) ⟨[.ref x, .int y ty], []⟩) R s := by
 obtain ⟨oc, od, doc, pm, an, cda, ct, cc, osl, ho, hcd, ⟨ccl, cdd, vs, ccs, file, tf, hcode, hvs, hfile⟩, cl, cld, csl, hcell⟩ := T.fn
 obtain ⟨msg, r1, r2, p0, p1, p2, p3, p4, p5, p6, p7, q1, q2, q3, q4, r5, r6, eA', eB', eS', hml, hev⟩ := T.shape
 rw [eA', eB', eS'] at ho
 obtain ⟨nm, q, N, bs, bm, sn, sub, ab, col, dd, k0, k1, k2, k3, k5, hC, hbm⟩ := T.cls
 have hcl : clsIn K C = some { name := nm, bases := bs, mro := .ref C :: bm, ns := N, qualname := q, hasDict := true, slotNames := sn, subclasses := sub, abstract := ab, collection := col, hasDel := false } := by unfold clsIn; rw [hC] <;> rfl
 refine ks_codeAny_call_defAt (fd := ksFn "__init__" qual (eA r1 r2) (eB msg p0 p1 p2 p3 p4 p5 p6 p7 q1 q2 q3 q4 r5 r6) eS .none .none doc pm an (.ref cda) ct cc) (body := eB msg p0 p1 p2 p3 p4 p5 p6 p7 q1 q2 q3 q4 r5 r6) (binds := [("self", .ref x), ("hour", .int y ty)]) hroom (X _ _ ho) rfl hlim (codeRec_of X hcd) rfl (BindsTo.of_eq (by first | rfl | with_unfolding_all rfl)) (fun z hz => by revert z; show ∀ z ∈ eS.names, z.2 ≠ NameKind.cell; decide) (by first | decide | (intro z hz; simp at hz; rcases hz with rfl | rfl <;> rfl)) (fun h₁ hns k => ?_) rfl rfl rfl
 have X₁ : K.In h₁ := X.keeps k
 have hx₁ := k _ _ hx
 show wpAt (model prog w) _ _ (execs (_ :: _) (ksEnv qual eS s.heap.objs.size fI (.ref cda) cc)) _ _ _
 obtain ⟨pl, he⟩ := hev s.heap.objs.size fI cda cc
 refine ks_wpAt_execs_cons (ks_wpAt_Expr_any (ks_wpAt_MethodCall (pl := pl) (he := he) ?_))
 obtain ⟨oD, hD1, hD2⟩ : ∃ oD, h₁.get? C = some oD ∧ oD.data = .cls { name := nm, bases := bs, mro := .ref C :: bm, ns := N, qualname := q, hasDict := true, slotNames := sn, subclasses := sub, abstract := ab, collection := col, hasDel := false } := ⟨_, X₁ _ _ hC, rfl⟩
 refine ks_wpAt_super_base (env := ksEnv qual eS s.heap.objs.size fI (.ref cda) cc) rfl rfl rfl rfl (X₁ _ _ ho) rfl rfl rfl (X₁ _ _ hcode) rfl hvs hfile T.top ?_
 refine ks_loadName_global rfl rfl (loadGlobal_builtin (env := ksEnv qual eS s.heap.objs.size fI (.ref cda) cc) (hg.keeps k) T.nsu (hb.keeps k) (hbs.trans (by decide +kernel)) ⟨rfl, ?_⟩)
 refine wpAny_loadName_free rfl rfl rfl ⟨_, X₁ _ _ hcell, rfl⟩ ?_
 refine wpAny_loadName_local rfl rfl hns (v := .ref x) rfl ?_
 refine ks_wpAny_isType_cls hD1 hD2 ⟨rfl, ?_⟩
 refine ks_wpAny_call_super hD1 hD2 hx₁ rfl (fun c e => by cases e) (looks_mroIn X₁ T.mroC) (fun h₂ hso k₂ => ?_)
 have X₂ : K.In h₂ := X₁.keeps k₂
 have hx₂ := k₂ _ _ hx₁
 have I₂ : InstAt h₂ x (excO C t0) C none := ⟨hx₂, rfl, rfl, trivial⟩
 have hI : Looks (model prog w) h₂ (isInstance (.ref x) (.type "ValueError")) true := I₂.type.andThen (looks_subIn X₂ T.veC)
 have hsup := T.sup
 unfold ks_superIn at hsup
 rw [hcl] at hsup
 refine kxs_getMethod kxs_ValueError hso (looks_opaque X₂ T.opq) (l₀ := .ref C :: bm) (fun A Q E s k q => wpAny_bind ((looks_clsIn X₂ hcl) A _ E s k (wpAny_pure q))) rfl X₂ hsup hI (ks_ne X₂ I₂ hcl) rfl ?_
 have k₃ : ∀ b o, h₂.get? b = some o → (h₂.push (kxs_mw "ValueError.__init__" x)).get? b = some o := fun b o e => Heap.get?_push_of_some _ e
 have hu : (h₂.push (kxs_mw "ValueError.__init__" x)).get? h₂.objs.size = some (kxs_mw "ValueError.__init__" x) := Heap.get?_push_at rfl rfl
 have hns₃ : (h₂.push (kxs_mw "ValueError.__init__" x)).Ns s.heap.objs.size (fun y' => ([("self", .ref x), ("hour", Value.int y ty)] : List (Str × Value)).reverse.lookup y') := (hns.keeps k₂).keeps k₃
 refine kxs_callWith (i := "ValueError.__init__") (x := x) rfl (evalArgs_plain (args_cons (wpAny_BinOp (wpAny_Constant_str ?_)) rfl))
 refine wpAny_Call_Name_kw (wpAny_Name (ks_loadName_global (env := ksEnv qual eS s.heap.objs.size fI (.ref cda) cc) rfl rfl (loadGlobal_builtin (env := ksEnv qual eS s.heap.objs.size fI (.ref cda) cc) (((hg.keeps k).keeps k₂).keeps k₃) T.nst (((hb.keeps k).keeps k₂).keeps k₃) (v := .type "str") (hbt.trans (by decide +kernel)) ?_)) (by decide))
 refine PyProof.Rows.callWith_type1 (args_cons (ldX hns₃ (v := .int y ty) rfl ?_) rfl)
 refine args_nil (P.str_of_int hy ?_)
 refine add_str (fun t' tk => args_nil ⟨hu, ?_⟩) (by
   rw [ofString_length, sizeLine_eq]
   have := int_text_length_le (k := 1920) (by decide) hy
   omega)
 refine wpAny_call (codeAny_of_tree ?_)
 show wpAny _ _ (callAny (.ref h₂.objs.size) ⟨_, []⟩) _ _ _
 simp only [callAny]
 refine wpAny_bind (wpAny_load hu ?_)
 simp only [kxs_mw, show (Value.type "method-wrapper" == Value.type "method" || Value.type "method-wrapper" == Value.type "builtin_function_or_method" || Value.type "method-wrapper" == Value.type "method-wrapper") = true by decide, if_true]
 refine KFB.if_so (by decide) ?_
 refine wpAny_bind (check_bound_init F.excBase_ValueError.toExcCallFacts (k₃ _ _ (X₂ _ _ hC)) (k₃ _ _ hx₂) rfl ?_)
 refine wpAny_bind (wpAny_pure (wpAny_pure ?_))
 refine ⟨plainId_quiet F.excBase_ValueError.init.plain _, codeAny_builtin F.excBase_ValueError.initEntry ?_⟩
 refine exc_init_tree (cls := .ref C) (t0 := t0) (dv := none) (c2 := .none) (c3 := .none) (b4 := .bool false) (k₃ _ _ hx₂) (by rw [sizeLine_eq]; exact (by decide : 1 ≤ 16777216)) fun h₄ k₄ hx₄ _ => ?_
 show wpAt (model prog w) _ _ (execs (_ :: _) (ksEnv qual eS s.heap.objs.size fI (.ref cda) cc)) _ _ _
 have kk : ∀ b o, b ≠ x → s.heap.get? b = some o → h₄.get? b = some o := fun b o hb e => k₄ b o hb (k₃ b o (k₂ b o (k b o e)))
 have hLx : s.heap.objs.size ≠ x := Nat.ne_of_gt (Heap.lt_size hx)
 have hns₄ : h₄.Ns s.heap.objs.size (fun y' => ([("self", .ref x), ("hour", Value.int y ty)] : List (Str × Value)).reverse.lookup y') := by
   obtain ⟨oL, es, ep, hL, r⟩ := hns₃
   exact ⟨oL, es, ep, k₄ _ _ hLx hL, r⟩
 have X₄ : K.In h₄ := fun b o e => k₄ b o (fun z => by
   rw [z, hnx] at e; cases e) (k₃ b o (X₂ _ _ e))
 refine wpAt_of_wpAny (wpAny_execs_cons (plainObj_wpAny_Assign_Attribute ?_))
 refine ldX (v := .int y ty) hns₄ rfl (ldX (v := .ref x) hns₄ rfl ?_)
 refine set_plain X₄ (ox := excO C (h₂.push (kxs_mw "ValueError.__init__" x)).objs.size) (od := none) ⟨hx₄, rfl, rfl, trivial⟩ T.sa ?_
 refine exc_osa X₄ hx₄ hcl (show refsVE (.ref C :: bm) = true from hbm) rfl T.noN (fun h₅ tk₅ dx k₅ dn dne hx₅ hn₅ => ?_)
 show wpAny _ _ (execs _ _) _ _ _
 have z : s.heap.objs.size < h₄.objs.size := hns₄.lt
 exact wpAny_execs_nil (hq h₅ tk₅ dx ⟨fun b o hb e => k₅ b o hb (kk b o hb e), ⟨_, hx₅⟩, Nat.le_of_lt (Nat.lt_of_lt_of_le z dn), dne, hn₅⟩)
structure OwnMade (h h' : Heap) (e C d : Addr) (v : Value) : Prop where
 keep : ∀ b o, h.get? b = some o → h'.get? b = some o
 new : h.objs.size ≤ e
 obj : ∃ oe vs, h'.get? e = some oe ∧ oe.cls = .ref C ∧ oe.dict = some d ∧ oe.data = .fields vs ∧ vs[1]? = some .none ∧ vs[2]? = some .none
 dbig : h.objs.size ≤ d
 dne : d ≠ e
 ns : h'.Ns1 d (fun y => if y = "hour" then some v else none)
theorem err_made (T : ErrTxt prog K mg cn qual st C fI) {y : Int} {ty : Tok} (X : K.In s.heap) (hg : s.heap.Ns mainGlobals mg) (hb : s.heap.Ns builtinsNs mb) (hbs : mb "super" = bootBuiltins "super") (hbt : mb "str" = bootBuiltins "str") (hlim : s.heap.NoLimit) (hy : y.natAbs.log2 < 1920) (hroom : A.depth + 1 < recursionLimit)
   (hq : ∀ h' tk e d, OwnMade s.heap h' e C d (.int y ty) → R (.ok (.ret (.ref e))) { s with heap := h', toks := tk }) :
   codeAny (model prog w) A (.call (.ref C) ⟨[.int y ty], []⟩) R s := by
 obtain ⟨nm, q, N, bs, bm, sn, sub, ab, col, dd, k0, k1, k2, k3, k5, hC, hbm⟩ := T.cls
 obtain ⟨hp, g, dr, tk, os⟩ := s
 have k : ∀ b o, hp.get? b = some o → ((hp.push (kdv_tup [.int y ty])).push (excO C hp.objs.size)).get? b = some o := fun b o e => Heap.get?_push_of_some _ (Heap.get?_push_of_some _ e)
 have hget : ((hp.push (kdv_tup [.int y ty])).push (excO C hp.objs.size)).get? (hp.objs.size + 1) = some (excO C hp.objs.size) := by heap_get
 have hnx : K.lookup (hp.objs.size + 1) = none := by
   cases e : K.lookup (hp.objs.size + 1) with
   | none => rfl
   | some o =>
     have z : hp.get? (hp.objs.size + 1) = some o := X _ _ e
     exact absurd (Nat.lt_of_succ_lt (Heap.lt_size z)) (Nat.lt_irrefl _)
 refine call_own F.excBase_ValueError (fun X => refsVE_contains X bm hbm) (X _ _ hC) (looks_findIn X T.iC) (fun self => bind_fn X self T.tC) (one_size _) ?_
 refine err_init (s := ⟨(hp.push (kdv_tup [.int y ty])).push (excO C hp.objs.size), g, dr, tk, os⟩) T (X.keeps k) (hg.keeps k) (hb.keeps k) hbs hbt (hlim.keeps k) hget hnx hy ?_ fun h' tk' dx ⟨k', ⟨t1, hx⟩, dn, dne, hns⟩ => ?_
 · show A.depth + 1 < recursionLimit
   exact hroom
 · have old : ∀ b o, hp.get? b = some o → h'.get? b = some o := fun b o e => k' b o (Nat.ne_of_lt (Nat.lt_succ_of_lt (Heap.lt_size e))) (k b o e)
   have z : hp.objs.size + 1 + 1 ≤ dx := by
     first
       | (simpa only [Heap.size_push] using dn)
       | exact dn
       | (have q := dn; rw [Heap.size_push, Heap.size_push] at q; exact q)
   exact ⟨rfl, hq h' tk' (hp.objs.size + 1) dx ⟨old, Nat.le_succ _, ⟨_, _, hx, rfl, rfl, rfl, rfl, rfl⟩, Nat.le_trans (Nat.le_trans (Nat.le_succ _) (Nat.le_succ _)) z, dne, hns⟩⟩
end
end ErrI_hour
end PySem
namespace L2
open PySem PySem.Spec PyProof.Rows
section
variable {X : Cx} {C fI : Addr} {cn qual : Str} {st : Stmt}
end
end L2
namespace G
open PySem PySem.Spec PyProof.Rows L2
section
variable {K : PySem.W.Frag} {σ : L2.St} {H : Hp} {Q : VK} {C : Addr} {D : Ends} {t2 : TS} {te : TE} {a dd : Addr} {fs : List (Str × V)}
end
end G
namespace Mi
end Mi
namespace L2
open PySem PySem.Spec PyProof.Rows
section
variable {prog : Program} {w : World}
end
section
variable {X : Cx} {P : Program} {w : World}
end
end L2
namespace G
open PySem PySem.Spec PyProof.Rows L2
section
variable {P : Program} {w : World} {K : PySem.W.Frag} {σ σ' : L2.St} {H : Hp} {F : List Addr} {te : TE} {v : V} {α β : Type} {τ : Ty α} {υ : Ty β} {Q : VK} {d : List ((Int × Int) × β)} {t2 : TS} {D : Ends}
end
section
variable {K : PySem.W.Frag} {σ : L2.St} {H : Hp} {F : List Addr} {v : V} {α : Type} {τ : Ty α} {D : Ends} {tb : TS}
end
end G
namespace G
open PySem PySem.Spec PyProof.Rows L2
section
variable {K : PySem.W.Frag} {σ : L2.St} {H : Hp} {F G Fu : List Addr} {v u : V} {p : Addr} {i : Int} {α : Type} {τ : Ty α}
end
end G
namespace G
open PySem PySem.Spec PyProof.Rows L2
section
variable {K : PySem.W.Frag} {σ : L2.St} {H : Hp} {F : List Addr} {v : V} {α β : Type} {τ : Ty α} {υ : Ty β} {Q : VK} {g : TG} {tt : TT} {te tl : TE} {ws : List Nat}
end
end G
namespace G
open PySem PySem.Spec PyProof.Rows L2
section
variable {K : PySem.W.Frag} {H : Hp} {F : List Addr} {v : V} {Q : VK} {α : Type} {τ : Ty α}
end
end G
namespace G
open PySem PySem.Spec PyProof.Rows L2
end G
namespace G
open PySem PySem.Spec PyProof.Rows L2
section
variable {K : PySem.W.Frag} {σ : L2.St} {H : Hp} {Q : VK} {C : Addr} {te : TE} {a dd : Addr} {fs : List (Str × V)}
end
end G
namespace Mi
end Mi
namespace L2
open G (Lst lst_ok)
open PySem PySem.Spec PyProof.Rows
end L2
namespace G
open PySem PySem.Spec PyProof.Rows L2
section
variable {K : PySem.W.Frag} {H : Hp} {Q : VK} {v u : V}
end
end G
namespace G
open PySem PySem.Spec PyProof.Rows L2
section
variable {K : PySem.W.Frag} {σ : L2.St} {H : Hp} {Q : VK} {C : Addr} {D : Ends} {t2 : TS} {te : TE}
end
end G
namespace G
open PySem PySem.Spec PyProof.Rows L2
section
variable {X : Cx} {a e b c : Expr} {te tb : TE} {ta : TT} {tc : TTw} {i : Nat} {x : Str} {p q rest : List Stmt} {t tr : TS} {p1 p2 p3 p4 p5 pos : Pos}
end
section
variable {K : PySem.W.Frag} {σ σ' : L2.St} {H : Hp} {F F1 F2 Fu : List Addr} {ta : TE} {v u : V} {i : Int} {α β : Type} {τ : Ty α} {υ : Ty β} {Q : VK} {D : Ends} {tb : TS}
end
section
variable {K : PySem.W.Frag} {H : Hp} {F : List Addr} {v : V} {α β : Type} {τ : Ty α} {ts : Tys α} {us : Tys β} {γ : Type} {υ : Ty γ} {f : α → β}
end
end G
namespace G
open PySem PySem.Spec PyProof.Rows L2
section
variable {K : PySem.W.Frag} {H : Hp} {F : List Addr} {v : V} {α β : Type} {τ : Ty α} {υ : Ty β}
end
section
variable {K : PySem.W.Frag} {H H' : Hp} {F G : List Addr} {u v : V} {α : Type} {τ : Ty α}
end
end G
namespace G
open PySem PySem.Spec PyProof.Rows L2
section
variable {P : Program} {w : World} {K : PySem.W.Frag} {σ : L2.St} {H : Hp} {F Fk : List Addr} {v u : V} {to ti te : TE} {d d' : List ((Int × Int) × Int)} {k : Int × Int} {i j z : Int} {t2 : TS} {D : Ends}
end
section
variable {X : Cx} {o : Expr} {f : Str} {pos : Pos} {ta : TE}
end
section
variable {K : PySem.W.Frag} {σ : L2.St} {H : Hp} {F : List Addr} {v : V} {i : Int} {α β γ : Type} {τ1 : Ty α} {τ2 : Ty β} {τ3 : Ty γ} {Q : VK}
end
section
variable {K : PySem.W.Frag} {H : Hp} {F : List Addr} {v : V} {a : List Nat} {Q : VK}
end
end G
namespace G
open PySem PySem.Spec PyProof.Rows L2
section
variable {M : Model} {A : Around} {E : Value → Shared → Prop} {s : Shared} {pos : Pos} {x : Addr} {Q : Value → Shared → Prop}
end
theorem fn_of {K : PySem.W.Frag} {x qual : Str} {st : Stmt} {f : Addr} {fd : FuncData} (F : Fun K x qual st f fd) : PySem.W.fnIn K f = true := by
 obtain ⟨oc, od, kV, doc, pm, an, cdv, ct, osl, _, e, _⟩ := F.ex
 unfold PySem.W.fnIn
 rw [e]
section
variable {X : Cx} {CX : CXT} {k : Nat} {f C : Addr} {fd : FuncData} {ps : List Str} {sp : Sp} {E : XK} {pos : Pos} {e o : Expr} {es : List Expr} {ta : TE} {t : TA}
end
section
variable {K : PySem.W.Frag} {H : Hp} {F : List Addr} {v : V} {α : Type} {C : Addr} {ns : List Str} {ts : Tys α} {d : α} {σ : L2.St} {ta : TE} {t : TA} {sp : Sp} {E : XK} {Q : VK}
end
end G
namespace PySem
open Sem (wp)
section
variable {prog : Program} {w : World} {A : Around} {E : Value → Shared → Prop} {s : Shared}
def ZOwn (h : Heap) (z TI TO : Addr) (al : Addr → Prop) : Prop := IsZip h z TI TO .none ∨ ∃ T f, IsZipHeld h z TI TO T f ∧ al T
def ZRest (h : Heap) (TI TO i1 i2 l1 l2 : Addr) (k : Nat) : Prop := IsPair h TI (.ref i1) (.ref i2) ∧ (∃ a b, IsPair h TO a b) ∧ h.IsListIter i1 l1 k ∧ h.IsListIter i2 l2 k
end
end PySem
namespace L2
open PySem PySem.Spec PyProof.Rows
def KeepT (H H' : Hp) : Prop := ∀ T l, H T = some (.tup l) → H' T = some (.tup l)
structure EZ (h : Heap) (H : Hp) (e z TI TO i1 i2 a b : Addr) (i : Nat) : Prop where
 en : ∃ old, IsEnum h e z ((i : Nat) : Int) old
 own : ZOwn h z TI TO fun T => ∃ l, H T = some (.tup l)
 rest : ZRest h TI TO i1 i2 a b i
theorem EZ.to {h h' : Heap} {H H' : Hp} {e z TI TO i1 i2 a b : Addr} {i : Nat} (s : EZ h H e z TI TO i1 i2 a b i) (k : ∀ c ∈ [e, z, TI, TO, i1, i2], ∀ o, h.get? c = some o → h'.get? c = some o) (kt : KeepT H H') : EZ h' H' e z TI TO i1 i2 a b i := by
 obtain ⟨⟨old, en⟩, own, hTI, ⟨x, y, hTO⟩, h1, h2⟩ := s
 refine ⟨⟨old, k e (by simp) _ en⟩, ?_, k TI (by simp) _ hTI, ⟨x, y, k TO (by simp) _ hTO⟩, h1.at fun o q => k i1 (by simp) o q, h2.at fun o q => k i2 (by simp) o q⟩
 rcases own with q | ⟨T, f, q, l, hl⟩
 · exact .inl (k z (by simp) _ q)
 · exact .inr ⟨T, f, k z (by simp) _ q, l, kt _ _ hl⟩
theorem EZ.obj {h : Heap} {H : Hp} {e z TI TO i1 i2 a b : Addr} {i : Nat} (s : EZ h H e z TI TO i1 i2 a b i) : ∀ c ∈ [e, z, TI, TO, i1, i2], ∃ o, h.get? c = some o ∧ ∀ v, o.data ≠ .cell v := by
 obtain ⟨⟨old, en⟩, own, hTI, ⟨x, y, hTO⟩, ⟨o1, g1, _, d1⟩, ⟨o2, g2, _, d2⟩⟩ := s
 intro c hc
 have e' : c = e ∨ c = z ∨ c = TI ∨ c = TO ∨ c = i1 ∨ c = i2 := by simpa using hc
 rcases e' with q | q | q | q | q | q
 · rw [q]; exact ⟨_, en, fun v q => nomatch q⟩
 · rw [q]
   rcases own with z | ⟨_, _, z, _⟩
   · exact ⟨_, z, fun v q => nomatch q⟩
   · exact ⟨_, z, fun v q => nomatch q⟩
 · rw [q]; exact ⟨_, hTI, fun v q => nomatch q⟩
 · rw [q]; exact ⟨_, hTO, fun v q => nomatch q⟩
 · rw [q]; exact ⟨o1, g1, fun v q => by rw [d1] at q; cases q⟩
 · rw [q]; exact ⟨o2, g2, fun v q => by rw [d2] at q; cases q⟩
section
variable {X : Cx} {pins : List (Addr × Obj)} {σ : St} {H : Hp} {s : Shared} {E : Value → Shared → Prop} {e z TI TO i1 i2 a b : Addr} {i : Nat} {xs ys : List V} {x y : V}
end
end L2
namespace G
open PySem PySem.Spec PyProof.Rows L2
section
variable {K : PySem.W.Frag} {σ σ' : L2.St} {H : Hp} {ta tb te : TE} {v w u x y : V} {i j : Int} {α β : Type} {τ : Ty α} {υ : Ty β} {D : Ends} {t2 : TS} {g : TG}
end
end G
namespace G
open PySem PySem.Spec PyProof.Rows L2
section
variable {X : Cx} {Z : CXT} {k : Nat} {f C : Addr} {fd : FuncData} {ps : List Str} {sp : Sp} {E : L2.St → XK} {pos : Pos} {e o : Expr} {es : List Expr} {ta : TE} {t : TA}
end
section
variable {C : Addr} {σ : L2.St} {H : Hp} {ta : TE} {t : TA} {sp : Sp} {E : L2.St → XK} {Q : VK}
end
end G
namespace G
open PySem PySem.Spec PyProof.Rows L2
def tTwo (t1 t2 : TE) : TE := fun σ H Q => t1 σ H Q ∨ t2 σ H Q
theorem pe_two {X : Cx} {e : Expr} {t1 t2 : TE} (h1 : PE X e t1) (h2 : PE X e t2) : PE X e (tTwo t1 t2) := ⟨fun pins s σ H Q I h => h.elim (h1.run pins s σ H Q I) (h2.run pins s σ H Q I)⟩
theorem w_two1 {t1 t2 : TE} {σ : L2.St} {H : Hp} {Q : VK} (h : t1 σ H Q) : tTwo t1 t2 σ H Q := .inl h
theorem w_two2 {t1 t2 : TE} {σ : L2.St} {H : Hp} {Q : VK} (h : t2 σ H Q) : tTwo t1 t2 σ H Q := .inr h
end G
namespace L2
open PySem PySem.Spec PyProof.Rows
section
variable {X : Cx} {CX : CXT} {k n : Nat} {f : Addr} {fd : FuncData} {ps ks : List Str} {sp : Sp} {E : St → XK} {x : Str} {p pos : Pos} {e : Expr} {es : List Expr} {kws : List Keyword} {t tk : TA} {g : List Value → List Value → List Value} {gV : List V → List V → List V}
end
end L2
namespace G
open PySem PySem.Spec PyProof.Rows L2
section
variable {K : PySem.W.Frag} {σ σ' : L2.St} {H : Hp} {F F1 F2 G1 G2 : List Addr} {v u : V} {α β : Type} {Q : VK} {D : Ends} {nx : L2.St → Hp → Prop}
end
end G
namespace PySem
namespace ErrS_agent
open PySem.W PySem.Calls PyProof.Rows PySem.HandSPX
open PySem.ErrX (ldX one_size)
def eA (p1 p2 : Pos) : Arguments := { posonlyargs := [], args := [{ arg := "self", annotation := none, pos := p1 }, { arg := "agent", annotation := none, pos := p2 }], vararg := none, kwonlyargs := [], kw_defaults := [], kwarg := none, defaults := [] }
def eB (m : Str) (p0 p1 p2 p3 p4 p5 p6 p7 q1 q2 q3 q4 : Pos) : List Stmt :=
 [.Expr (.Call (.Attribute (.Call (.Name "super" p0) [] [] p1) "__init__" p2) [.BinOp (.Constant (.str m) 0 p3) .Add (.Name "agent" p4) p5] [] p6) p7, .Assign [.Attribute (.Name "self" q1) "agent" q2] (.Name "agent" q3) q4]
def eS : Scope := { kind := .function, names := [(PySem.Str.ofString "self", .local), (PySem.Str.ofString "agent", .local), (PySem.Str.ofString "__class__", .free), (PySem.Str.ofString "super", .globalImplicit)], isGenerator := false, isCoroutine := false, more := [] }
structure ErrTxt (P : Program) (K : Frag) (mg : Str → Option Value) (x qual : Str) (st : Stmt) (C fI : Addr) : Prop where
 gC : mg x = some (.ref C)
 cls : ∃ nm q N bs bm sn sub ab col dd k0 k1 k2 k3 k5, K.lookup C = some (excClassObj nm q C N bs bm true sn sub ab col dd k0 k1 k2 k3 k5 "ValueError.__new__") ∧ refsVE bm = true
 sa : findIn K (.ref C) "__setattr__" = some (some (.builtin "object.__setattr__"))
 ga : findIn K (.ref C) "__getattribute__" = some (some (.builtin "BaseException.__getattribute__"))
 gg : findIn K (.ref C) "__getattr__" = some none
 noN : findIn K (.ref C) "agent" = some none
 iC : findIn K (.ref C) "__init__" = some (some (.ref fI))
 tC : typeIn K (.ref fI) = some (.type "function")
 kC : keepIn K (.ref C) = true
 exC : subIn K (.ref C) (.type "BaseException") = some true
 veC : subIn K (.ref C) (.type "ValueError") = some true
 tyC : typeIn K (.ref C) = some (.type "type")
 hdC : hasDictIn K C = true
 mroC : mroIn K C (.ref C) = some true
 sup : ks_superIn K C C "__init__" = some (some (.builtin "ValueError.__init__"))
 opq : nsIn K cStatics "thirdparty.any" = some none
 nsu : mg "super" = none
 top : (P.main.scope.names.lookup ("super" : Str)).isSome = false
 fn : ∃ (oc : Value) (od : Option Addr) (doc pm : Value) (an : Option Addr) (cda : Addr) (ct : Value) (cc : Addr) (osl : Array (Option Value)),
   K.lookup fI = some ⟨oc, od, .func (ksFn "__init__" qual (L2.defArgs st) (L2.defBody st) (L2.defScope st) .none .none doc pm an (.ref cda) ct cc), osl⟩ ∧ codeIn K (.ref cda) qual = true ∧
   (∃ (ccl : Value) (cdd : Option Addr) (vs : Array Value) (ccs : Array (Option Value)) (file : Str) (tf : Tok), K.lookup cda = some ⟨ccl, cdd, .fields vs, ccs⟩ ∧ vs[2]? = some (.str file tf) ∧ ((P.main.file : Str) == file) = true) ∧
   ∃ (cl : Value) (cld : Option Addr) (csl : Array (Option Value)), K.lookup cc = some ⟨cl, cld, .cell (some (.ref C)), csl⟩
 shape : ∃ (msg : Str) (r1 r2 p0 p1 p2 p3 p4 p5 p6 p7 q1 q2 q3 q4 : Pos), L2.defArgs st = eA r1 r2 ∧ L2.defBody st = eB msg p0 p1 p2 p3 p4 p5 p6 p7 q1 q2 q3 q4 ∧ L2.defScope st = eS ∧ msg.length ≤ 100 ∧
   ∀ L f cda cc : Addr, ∃ pl : Sem Bool, eval (.Call (.Attribute (.Call (.Name "super" p0) [] [] p1) "__init__" p2) [.BinOp (.Constant (.str msg) 0 p3) .Add (.Name "agent" p4) p5] [] p6) (ksEnv qual eS L f (.ref cda) cc) = (do
     let ov ← attributeBase (.Call (.Name "super" p0) [] [] p1) "__init__" (ksEnv qual eS L f (.ref cda) cc) (eval (.Call (.Name "super" p0) [] [] p1) (ksEnv qual eS L f (.ref cda) cc))
     standAt p2.atName
     let (f', first) ← holding [ov] (getMethod ov "__init__" pl)
     callWith p6 f' first (backTo p6 (starEach [.BinOp (.Constant (.str msg) 0 p3) .Add (.Name "agent" p4) p5] (ksEnv qual eS L f (.ref cda) cc))) [])
structure InitEnd (h h' : Heap) (x C dx : Addr) (v : Value) : Prop where
 keep : ∀ b o, b ≠ x → h.get? b = some o → h'.get? b = some o
 obj : ∃ t1 : Addr, h'.get? x = some { cls := .ref C, dict := some dx, data := .fields #[.ref t1, .none, .none, .none, .bool false, .none] }
 dbig : h.objs.size ≤ dx
 dne : dx ≠ x
 ns : h'.Ns1 dx (fun y => if y = "agent" then some v else none)
section
variable {prog : Program} {w : World} {A : Around} {E : Value → Shared → Prop} {R : Result → Shared → Prop} {s : Shared} {K : Frag} {mg mb : Str → Option Value} {C fI : Addr} {cn qual : Str} {st : Stmt}
theorem err_init (T : ErrTxt prog K mg cn qual st C fI) {x t0 : Addr} {y : Str} {ty : Tok} (X : K.In s.heap) (hg : s.heap.Ns mainGlobals mg) (hb : s.heap.Ns builtinsNs mb) (hbs : mb "super" = bootBuiltins "super") (hlim : s.heap.NoLimit) (hx : s.heap.get? x = some (excO C t0)) (hnx : K.lookup x = none) (hy : y.length ≤ 1000000) (hroom : A.depth < recursionLimit)
   (hq : ∀ h' tk dx, InitEnd s.heap h' x C dx (.str y ty) → R (.ok (.ret .none)) { s with heap := h', toks := tk }) :
   codeAny (model prog w) A (.call (.ref fI) ⟨[.ref x, .str y ty], []⟩) R s := by
 obtain ⟨oc, od, doc, pm, an, cda, ct, cc, osl, ho, hcd, ⟨ccl, cdd, vs, ccs, file, tf, hcode, hvs, hfile⟩, cl, cld, csl, hcell⟩ := T.fn
 obtain ⟨msg, r1, r2, p0, p1, p2, p3, p4, p5, p6, p7, q1, q2, q3, q4, eA', eB', eS', hml, hev⟩ := T.shape
 rw [eA', eB', eS'] at ho
 obtain ⟨nm, q, N, bs, bm, sn, sub, ab, col, dd, k0, k1, k2, k3, k5, hC, hbm⟩ := T.cls
 have hcl : clsIn K C = some { name := nm, bases := bs, mro := .ref C :: bm, ns := N, qualname := q, hasDict := true, slotNames := sn, subclasses := sub, abstract := ab, collection := col, hasDel := false } := by unfold clsIn; rw [hC] <;> rfl
 refine ks_codeAny_call_defAt (fd := ksFn "__init__" qual (eA r1 r2) (eB msg p0 p1 p2 p3 p4 p5 p6 p7 q1 q2 q3 q4) eS .none .none doc pm an (.ref cda) ct cc) (body := eB msg p0 p1 p2 p3 p4 p5 p6 p7 q1 q2 q3 q4) (binds := [("self", .ref x), ("agent", .str y ty)]) hroom (X _ _ ho) rfl hlim (codeRec_of X hcd) rfl (BindsTo.of_eq (by first | rfl | with_unfolding_all rfl)) (fun z hz => by revert z; show ∀ z ∈ eS.names, z.2 ≠ NameKind.cell; decide) (by first | decide | (intro z hz; simp at hz; rcases hz with rfl | rfl <;> rfl)) (fun h₁ hns k => ?_) rfl rfl rfl
 have X₁ : K.In h₁ := X.keeps k
 have hx₁ := k _ _ hx
 show wpAt (model prog w) _ _ (execs (_ :: _) (ksEnv qual eS s.heap.objs.size fI (.ref cda) cc)) _ _ _
 obtain ⟨pl, he⟩ := hev s.heap.objs.size fI cda cc
 refine ks_wpAt_execs_cons (ks_wpAt_Expr_any (ks_wpAt_MethodCall (pl := pl) (he := he) ?_))
 obtain ⟨oD, hD1, hD2⟩ : ∃ oD, h₁.get? C = some oD ∧ oD.data = .cls { name := nm, bases := bs, mro := .ref C :: bm, ns := N, qualname := q, hasDict := true, slotNames := sn, subclasses := sub, abstract := ab, collection := col, hasDel := false } := ⟨_, X₁ _ _ hC, rfl⟩
 refine ks_wpAt_super_base (env := ksEnv qual eS s.heap.objs.size fI (.ref cda) cc) rfl rfl rfl rfl (X₁ _ _ ho) rfl rfl rfl (X₁ _ _ hcode) rfl hvs hfile T.top ?_
 refine ks_loadName_global rfl rfl (loadGlobal_builtin (env := ksEnv qual eS s.heap.objs.size fI (.ref cda) cc) (hg.keeps k) T.nsu (hb.keeps k) (hbs.trans (by decide +kernel)) ⟨rfl, ?_⟩)
 refine wpAny_loadName_free rfl rfl rfl ⟨_, X₁ _ _ hcell, rfl⟩ ?_
 refine wpAny_loadName_local rfl rfl hns (v := .ref x) rfl ?_
 refine ks_wpAny_isType_cls hD1 hD2 ⟨rfl, ?_⟩
 refine ks_wpAny_call_super hD1 hD2 hx₁ rfl (fun c e => by cases e) (looks_mroIn X₁ T.mroC) (fun h₂ hso k₂ => ?_)
 have X₂ : K.In h₂ := X₁.keeps k₂
 have hx₂ := k₂ _ _ hx₁
 have I₂ : InstAt h₂ x (excO C t0) C none := ⟨hx₂, rfl, rfl, trivial⟩
 have hI : Looks (model prog w) h₂ (isInstance (.ref x) (.type "ValueError")) true := I₂.type.andThen (looks_subIn X₂ T.veC)
 have hsup := T.sup
 unfold ks_superIn at hsup
 rw [hcl] at hsup
 refine kxs_getMethod kxs_ValueError hso (looks_opaque X₂ T.opq) (l₀ := .ref C :: bm) (fun A Q E s k q => wpAny_bind ((looks_clsIn X₂ hcl) A _ E s k (wpAny_pure q))) rfl X₂ hsup hI (ks_ne X₂ I₂ hcl) rfl ?_
 have k₃ : ∀ b o, h₂.get? b = some o → (h₂.push (kxs_mw "ValueError.__init__" x)).get? b = some o := fun b o e => Heap.get?_push_of_some _ e
 have hu : (h₂.push (kxs_mw "ValueError.__init__" x)).get? h₂.objs.size = some (kxs_mw "ValueError.__init__" x) := Heap.get?_push_at rfl rfl
 have hns₃ : (h₂.push (kxs_mw "ValueError.__init__" x)).Ns s.heap.objs.size (fun y' => ([("self", .ref x), ("agent", Value.str y ty)] : List (Str × Value)).reverse.lookup y') := (hns.keeps k₂).keeps k₃
 refine kxs_callWith (i := "ValueError.__init__") (x := x) rfl (evalArgs_plain (args_cons (wpAny_BinOp (wpAny_Constant_str (ldX hns₃ (v := .str y ty) rfl (add_str (fun t' tk => args_nil ⟨hu, ?_⟩) (by rw [sizeLine_eq]; omega))))) rfl))
 refine wpAny_call (codeAny_of_tree ?_)
 show wpAny _ _ (callAny (.ref h₂.objs.size) ⟨_, []⟩) _ _ _
 simp only [callAny]
 refine wpAny_bind (wpAny_load hu ?_)
 simp only [kxs_mw, show (Value.type "method-wrapper" == Value.type "method" || Value.type "method-wrapper" == Value.type "builtin_function_or_method" || Value.type "method-wrapper" == Value.type "method-wrapper") = true by decide, if_true]
 refine KFB.if_so (by decide) ?_
 refine wpAny_bind (check_bound_init F.excBase_ValueError.toExcCallFacts (k₃ _ _ (X₂ _ _ hC)) (k₃ _ _ hx₂) rfl ?_)
 refine wpAny_bind (wpAny_pure (wpAny_pure ?_))
 refine ⟨plainId_quiet F.excBase_ValueError.init.plain _, codeAny_builtin F.excBase_ValueError.initEntry ?_⟩
 refine exc_init_tree (cls := .ref C) (t0 := t0) (dv := none) (c2 := .none) (c3 := .none) (b4 := .bool false) (k₃ _ _ hx₂) (by rw [sizeLine_eq]; exact (by decide : 1 ≤ 16777216)) fun h₄ k₄ hx₄ _ => ?_
 show wpAt (model prog w) _ _ (execs (_ :: _) (ksEnv qual eS s.heap.objs.size fI (.ref cda) cc)) _ _ _
 have kk : ∀ b o, b ≠ x → s.heap.get? b = some o → h₄.get? b = some o := fun b o hb e => k₄ b o hb (k₃ b o (k₂ b o (k b o e)))
 have hLx : s.heap.objs.size ≠ x := Nat.ne_of_gt (Heap.lt_size hx)
 have hns₄ : h₄.Ns s.heap.objs.size (fun y' => ([("self", .ref x), ("agent", Value.str y ty)] : List (Str × Value)).reverse.lookup y') := by
   obtain ⟨oL, es, ep, hL, r⟩ := hns₃
   exact ⟨oL, es, ep, k₄ _ _ hLx hL, r⟩
 have X₄ : K.In h₄ := fun b o e => k₄ b o (fun z => by
   rw [z, hnx] at e; cases e) (k₃ b o (X₂ _ _ e))
 refine wpAt_of_wpAny (wpAny_execs_cons (plainObj_wpAny_Assign_Attribute ?_))
 refine ldX (v := .str y ty) hns₄ rfl (ldX (v := .ref x) hns₄ rfl ?_)
 refine set_plain X₄ (ox := excO C (h₂.push (kxs_mw "ValueError.__init__" x)).objs.size) (od := none) ⟨hx₄, rfl, rfl, trivial⟩ T.sa ?_
 refine exc_osa X₄ hx₄ hcl (show refsVE (.ref C :: bm) = true from hbm) rfl T.noN (fun h₅ tk₅ dx k₅ dn dne hx₅ hn₅ => ?_)
 show wpAny _ _ (execs _ _) _ _ _
 have z : s.heap.objs.size < h₄.objs.size := hns₄.lt
 exact wpAny_execs_nil (hq h₅ tk₅ dx ⟨fun b o hb e => k₅ b o hb (kk b o hb e), ⟨_, hx₅⟩, Nat.le_of_lt (Nat.lt_of_lt_of_le z dn), dne, hn₅⟩)
structure OwnMade (h h' : Heap) (e C d : Addr) (v : Value) : Prop where
 keep : ∀ b o, h.get? b = some o → h'.get? b = some o
 new : h.objs.size ≤ e
 obj : ∃ oe vs, h'.get? e = some oe ∧ oe.cls = .ref C ∧ oe.dict = some d ∧ oe.data = .fields vs ∧ vs[1]? = some .none ∧ vs[2]? = some .none
 dbig : h.objs.size ≤ d
 dne : d ≠ e
 ns : h'.Ns1 d (fun y => if y = "agent" then some v else none)
theorem err_made (T : ErrTxt prog K mg cn qual st C fI) {y : Str} {ty : Tok} (X : K.In s.heap) (hg : s.heap.Ns mainGlobals mg) (hb : s.heap.Ns builtinsNs mb) (hbs : mb "super" = bootBuiltins "super") (hlim : s.heap.NoLimit) (hy : y.length ≤ 1000000) (hroom : A.depth + 1 < recursionLimit)
   (hq : ∀ h' tk e d, OwnMade s.heap h' e C d (.str y ty) → R (.ok (.ret (.ref e))) { s with heap := h', toks := tk }) :
   codeAny (model prog w) A (.call (.ref C) ⟨[.str y ty], []⟩) R s := by
 obtain ⟨nm, q, N, bs, bm, sn, sub, ab, col, dd, k0, k1, k2, k3, k5, hC, hbm⟩ := T.cls
 obtain ⟨hp, g, dr, tk, os⟩ := s
 have k : ∀ b o, hp.get? b = some o → ((hp.push (kdv_tup [.str y ty])).push (excO C hp.objs.size)).get? b = some o := fun b o e => Heap.get?_push_of_some _ (Heap.get?_push_of_some _ e)
 have hget : ((hp.push (kdv_tup [.str y ty])).push (excO C hp.objs.size)).get? (hp.objs.size + 1) = some (excO C hp.objs.size) := by heap_get
 have hnx : K.lookup (hp.objs.size + 1) = none := by
   cases e : K.lookup (hp.objs.size + 1) with
   | none => rfl
   | some o =>
     have z : hp.get? (hp.objs.size + 1) = some o := X _ _ e
     exact absurd (Nat.lt_of_succ_lt (Heap.lt_size z)) (Nat.lt_irrefl _)
 refine call_own F.excBase_ValueError (fun X => refsVE_contains X bm hbm) (X _ _ hC) (looks_findIn X T.iC) (fun self => bind_fn X self T.tC) (one_size _) ?_
 refine err_init (s := ⟨(hp.push (kdv_tup [.str y ty])).push (excO C hp.objs.size), g, dr, tk, os⟩) T (X.keeps k) (hg.keeps k) (hb.keeps k) hbs (hlim.keeps k) hget hnx hy ?_ fun h' tk' dx ⟨k', ⟨t1, hx⟩, dn, dne, hns⟩ => ?_
 · show A.depth + 1 < recursionLimit
   exact hroom
 · have old : ∀ b o, hp.get? b = some o → h'.get? b = some o := fun b o e => k' b o (Nat.ne_of_lt (Nat.lt_succ_of_lt (Heap.lt_size e))) (k b o e)
   have z : hp.objs.size + 1 + 1 ≤ dx := by
     first
       | (simpa only [Heap.size_push] using dn)
       | exact dn
       | (have q := dn; rw [Heap.size_push, Heap.size_push] at q; exact q)
   exact ⟨rfl, hq h' tk' (hp.objs.size + 1) dx ⟨old, Nat.le_succ _, ⟨_, _, hx, rfl, rfl, rfl, rfl, rfl⟩, Nat.le_trans (Nat.le_trans (Nat.le_succ _) (Nat.le_succ _)) z, dne, hns⟩⟩
end
end ErrS_agent
end PySem
namespace L2
open PySem PySem.Spec PyProof.Rows
section
variable {X : Cx} {C fI : Addr} {cn qual : Str} {st : Stmt}
end
end L2
namespace G
open PySem PySem.Spec PyProof.Rows L2
section
variable {K : PySem.W.Frag} {σ : L2.St} {H : Hp} {Q : VK} {C : Addr} {D : Ends} {t2 : TS} {te : TE} {a dd : Addr} {fs : List (Str × V)}
end
end G
namespace SrtO
open PySem PySem.Spec PyProof.Rows
def IsTrip (h : Heap) (v : Value) (d : Int × Int × Int) : Prop := ∃ a o t u r n, v = .ref a ∧ h.get? a = some o ∧ o.cls = .type "tuple" ∧ o.data = .seq #[.int d.1 t, .int d.2.1 u, .int d.2.2 r] n
theorem IsTrip.keeps {h h' : Heap} {v : Value} {d : Int × Int × Int} (p : IsTrip h v d) (k : ∀ b o, h.get? b = some o → o.cls = .type "tuple" → h'.get? b = some o) : IsTrip h' v d := by
 obtain ⟨a, o, t, u, r, n, e, ho, hc, hd⟩ := p
 exact ⟨a, o, t, u, r, n, e, k _ _ ho hc, hc, hd⟩
section
variable {prog : Program} {w : World} {A : Around} {s : Shared} {E : Value → Shared → Prop}
end
end SrtO
namespace L2
open PySem PySem.Spec PyProof.Rows
section
variable {X : Cx}
end
section
variable {X : Cx} {pins : List (Addr × Obj)} {σ : St} {H : Hp} {s : Shared}
end
end L2
namespace G
open PySem PySem.Spec PyProof.Rows L2
section
variable {X : Cx} {P : Program} {w : World} {K : PySem.W.Frag} {σ σ' : L2.St} {H : Hp} {F F1 F2 Fu : List Addr} {ta tb te to : TE} {v u x y : V} {i j : Int} {Q : VK}
end
end G
namespace G
open PySem PySem.Spec PyProof.Rows L2
section
variable {K : PySem.W.Frag} {H : Hp} {F : List Addr} {v : V} {γ : Type} {ω : Ty γ} {Q : VK}
end
end G
namespace L2
open PySem PySem.Spec PyProof.Rows
section
variable {X : Cx}
end
end L2
namespace G
open PySem PySem.Spec PyProof.Rows L2
section
variable {K : PySem.W.Frag} {H : Hp} {F1 : List Addr} {v : V} {β : Type} {τ : Ty β}
end
end G
namespace G
open PySem PySem.Spec PyProof.Rows L2
section
variable {K : PySem.W.Frag} {H : Hp} {F : List Addr} {v : V} {α β : Type} {τ : Ty β} {i : Int}
end
end G
namespace G
open PySem PySem.Spec PyProof.Rows L2
section
variable {K : PySem.W.Frag} {H : Hp} {F : List Addr} {v : V} {α : Type} {τ ρ : Ty α} {x : α}
end
end G
namespace G
open PySem PySem.Spec PyProof.Rows L2
section
variable {X : Cx} {P : Program} {w : World} {K : PySem.W.Frag}
variable {σ : L2.St} {H : Hp} {F Fk : List Addr} {v u : V} {td ty tx : TE} {d : List ((Int × Int) × Int)} {k : Int × Int} {i : Int}
end
end G
namespace G
open PySem PySem.Spec PyProof.Rows L2
section
variable {X : Cx} {a e b c : Expr} {te tb : TE} {ta : TT} {tc : TTw} {i : Nat} {x : Str} {p q rest : List Stmt} {t u tr : TS} {p1 p2 p3 p4 p5 pos : Pos}
end
end G
namespace G
open PySem PySem.Spec PyProof.Rows L2
section
variable {P : Program} {w : World} {K : PySem.W.Frag} {H : Hp} {F1 : List Addr} {v : V} {β : Type} {υ : Ty β}
end
section
variable {X : Cx} {P : Program} {w : World} {ke ve : Expr} {tk tv : TE} {pos : Pos}
end
section
variable {P : Program} {w : World} {K : PySem.W.Frag} {σ : L2.St} {H : Hp} {Fk : List Addr} {u z : V} {β : Type} {υ : Ty β} {tk tv : TE} {Q : VK} {D : Addr} {k : Int × Int} {x : β}
end
end G
namespace G
open PySem PySem.Spec PyProof.Rows L2
section
variable {K : PySem.W.Frag} {σ : L2.St} {H : Hp} {F : List Addr} {v : V} {α : Type} {τ : Ty α} {D : Ends} {tb u : TS}
end
end G
namespace G
open PySem PySem.Spec PyProof.Rows L2
section
variable {X : Cx}
end
end G
namespace G
open PySem PySem.Spec PyProof.Rows L2
section
variable {K : PySem.W.Frag} {H : Hp} {F F2 : List Addr} {u v : V} {Q : VK} {α : Type} {τ υ : Ty α} {n : Nat}
end
end G
namespace G
open PySem PySem.Spec PyProof.Rows L2
section
variable {K : PySem.W.Frag} {σ : L2.St} {H : Hp} {v : V} {α β γ δ ε : Type}
end
end G
namespace G
open PySem PySem.Spec PyProof.Rows L2
section
variable {K : PySem.W.Frag} {σ : L2.St} {H H' : Hp} {F F1 F2 : List Addr} {u v : V} {Q : VK}
end
section
variable {K : PySem.W.Frag} {σ : L2.St} {H H' : Hp} {F F1 F2 : List Addr} {u v u1 u2 : V} {Q : VK}
end
end G
namespace G
open PySem PySem.Spec PyProof.Rows L2
section
variable {X : Cx} {a b : Expr} {ta tb : TE} {pos : Pos}
theorem pln (K : PySem.W.Frag) {nm : Pos} (hm : X.mg ("len" : Str) = none) (ha : PE X a ta) (hg : Gl X ("len" : Str) := by rfl) (hs : starEach [a] X.env = (false, eval a X.env) :: starEach [] X.env := by rfl) (e : X.K = K := by rfl) :
 PE X (.Call (.Name ("len" : Str) nm) [a] [] pos) (tCB (rLenQ K) (tCons ta tNil)) := pe_callB (cl_len (K := K) e) hg hm PySem.boot_len (pa_cons ha pa_nil hs) (by decide) (by decide) hs (by rfl)
end
section
variable {K : PySem.W.Frag} {mg : Str → Option Value} {C : Addr} {x f : Str} {ns : List Str} {α β : Type} {ts : Tys α} {υ : Ty β} {pr : α → β} {d : α} {H : Hp} {F : List Addr} {v : V}
end
end G
namespace G
open PySem PySem.Spec PyProof.Rows L2
section
variable {X : Cx} {K : PySem.W.Frag}
end
section
variable {K : PySem.W.Frag} {σ : L2.St} {H : Hp} {F Fu : List Addr} {v u : V} {to ti te : TE} {xs ys : List Int} {i j a : Int} {t2 : TS} {D : Ends} {α : Type} {τ : Ty α} {Q : VK}
end
end G
namespace L2
open PySem PySem.Spec PyProof.Rows
section
variable {P : Program} {w : World} {A : Around} {E : Value → Shared → Prop} {s : Shared}
theorem SetB.keep {h h' : Heap} {a : Addr} {L : List (Addr × List Int)} {es : Array (Int × Value)} {ep : Nat} {t : SetTable} (R : SetB P w h a L es ep t) (ha : ∀ o, h.get? a = some o → h'.get? a = some o) (ht : ∀ p ∈ L, IsT P w h' p.2 p.1) : SetB P w h' a L es ep t := by
 obtain ⟨o, ho, r⟩ := R.obj
 exact ⟨⟨o, ha o ho, r⟩, R.rws, R.tb, R.ndp, ht, R.pln, R.ld, R.rm⟩
def Has (P : Program) (w : World) (S : Addr) (ks : List (Addr × List Int)) (i : Nat) (h : Heap) : Prop := ∃ L es ep t, SetB P w h S L es ep t ∧ Got ks i L
theorem Has.keep {S : Addr} {ks : List (Addr × List Int)} {i : Nat} {h h' : Heap} (x : Has P w S ks i h) (ha : ∀ o, h.get? S = some o → h'.get? S = some o) (ht : ∀ p ∈ ks, IsT P w h' p.2 p.1) : Has P w S ks i h' := by
 obtain ⟨L, es, ep, t, R, g⟩ := x
 exact ⟨L, es, ep, t, R.keep ha fun p hp => ht p (List.mem_of_mem_take (g.sub p hp)), g⟩
end
section
variable {X : Cx}
end
end L2
namespace G
open PySem PySem.Spec PyProof.Rows L2
section
variable {X : Cx} {K : PySem.W.Frag} {P : Program} {w : World} {H : Hp} {F : List Addr} {v : V} {Q : VK}
end
end G
namespace G
open PySem PySem.Spec PyProof.Rows L2
section
variable {K : PySem.W.Frag} {H H' : Hp} {F Fi G : List Addr} {v u : V} {α : Type} {τ : Ty α} {i : Int} {Q : VK}
end
end G
namespace G
open PySem PySem.Spec PyProof.Rows L2
section
variable {K : PySem.W.Frag} {σ : L2.St} {H : Hp} {F : List Addr} {v : V} {α : Type} {τ : Ty α} {D : Ends}
end
end G
namespace G
open PySem PySem.Spec PyProof.Rows L2
section
variable {K : PySem.W.Frag} {σ : L2.St} {H : Hp} {F : List Addr} {v : V} {Q : VK} {te td : TE} {xs : List (Int × Int)} {D : Ends}
end
end G
namespace G
open PySem PySem.Spec PyProof.Rows L2
section
variable {K : PySem.W.Frag} {H : Hp} {F : List Addr} {v : V}
end
end G
namespace L2
open PySem PySem.Spec PyProof.Rows
section
variable {X : Cx}
end
end L2
namespace G
open PySem PySem.Spec PyProof.Rows L2
section
variable {K : PySem.W.Frag} {σ : L2.St} {H : Hp} {F : List Addr} {v : V} {t1 t2 : TS} {xs : List (Int × Int)} {D : Ends}
end
end G
namespace G
open PySem PySem.Spec PyProof.Rows L2
section
variable {X : Cx} {P : Program} {w : World} {K : PySem.W.Frag} {σ σ' : L2.St} {H : Hp} {F F1 F2 Fu : List Addr} {ta tb te to : TE} {tA : TT} {v u x y : V} {i j : Int} {Q : VK} {α β : Type} {τ : Ty α} {υ : Ty β} {n : Nat} {g : TG} {tt : TT} {ws : List Nat}
end
end G
namespace G
open PySem PySem.Spec PyProof.Rows L2
def TabF (P : Addr) (q : Str) (H : Hp) : Prop := ∃ ps : Array Value, H P = some (.tbl ps) ∧ TriplesOk ps.toList ∧ ∀ (pos : Pos) (cv : Value), codeAmong pos ps.toList = some cv → ∃ (c : Addr) (oc : Obj) (u : HO) (vs : Array Value) (t : Tok), cv = .ref c ∧ H c = some (.frz oc u) ∧ oc.data = .fields vs ∧ vs[1]? = some (.str q t)
theorem TabF.keeps {P : Addr} {q : Str} {H H' : Hp} (t : TabF P q H) (k : ∀ b o, H b = some o → (b ∈ [P] ∨ Froz o) → H' b = some o) : TabF P q H' := by
 obtain ⟨ps, h1, h2, h3⟩ := t
 refine ⟨ps, k _ _ h1 (.inl (List.mem_singleton.mpr rfl)), h2, fun pos cv hc => ?_⟩
 obtain ⟨c', oc, u, vs, t, e1, e2, r⟩ := h3 pos cv hc
 exact ⟨c', oc, u, vs, t, e1, k _ _ e2 (.inr trivial), r⟩
theorem TabF.chg {P : Addr} {q : Str} {M : List Addr} {H H' : Hp} (t : TabF P q H) (c : Chg M H H') (hP : P ∉ M) : TabF P q H' := t.keeps fun b o h z => c.keep b o h (z.imp (fun m => by rw [List.mem_singleton.mp m]; exact hP) id)
def yTab (P : Addr) (q : Str) : Ty Unit := ⟨fun _ H F v _ => F = [P] ∧ v = .ref P ∧ TabF P q H, fun h k => ⟨h.1, h.2.1, h.2.2.keeps fun b o e z => k b o e (by rw [h.1]; exact z)⟩, fun h b m => by
 rw [h.1, List.mem_singleton] at m; subst m
 obtain ⟨ps, e, _⟩ := h.2.2
 exact ⟨_, e, fun z => z⟩⟩
theorem TabF.nil {P : Addr} {q : Str} {H : Hp} (h : H P = some (.tbl #[])) : TabF P q H := ⟨#[], h, True.intro, fun pos cv hc => by
 have z : codeAmong pos [] = some cv := hc
 simp [codeAmong] at z⟩
section
variable {prog : Program} {w : World} {A : Around} {s : Shared} {E : Value → Shared → Prop}
end
end G
namespace G
open PySem PySem.Spec PyProof.Rows L2
section
variable {X : Cx} {pins : List (Addr × Obj)} {σ : L2.St} {H : Hp} {s : Shared}
end
end G
namespace G
open PySem PySem.Spec PyProof.Rows L2
section
variable {X : Cx}
end
end G
namespace G
open PySem PySem.Spec PyProof.Rows L2
end G
namespace G
open PySem PySem.Spec PyProof.Rows L2
end G
namespace L2
open PySem PySem.Spec PyProof.Rows
section
variable {X : Cx}
end
end L2
namespace G
open PySem PySem.Spec PyProof.Rows L2
end G
namespace G
open PySem PySem.Spec PyProof.Rows L2
section
variable {X : Cx} {K : PySem.W.Frag} {σ σ' : L2.St} {H : Hp} {F : List Addr} {v u x y : V} {n : Nat} {α β : Type} {τ : Ty α} {D : Ends}
end
end G
namespace G
open PySem PySem.Spec PyProof.Rows L2
end G
namespace L2
open PySem PySem.Spec PyProof.Rows
section
variable {X : Cx} {pins : List (Addr × Obj)} {σ : St} {H : Hp} {s : Shared}
end
end L2
namespace G
open PySem PySem.Spec PyProof.Rows L2
section
variable {X : Cx} {K : PySem.W.Frag} {σ : L2.St} {H : Hp} {F : List Addr} {v : V} {Q : VK} {α : Type} {τ : Ty α} {n : Nat}
end
end G
namespace G
open PySem PySem.Spec PyProof.Rows L2 PySem.Calls
section
variable {prog : Program} {w : World} {A : Around} {E : Value → Shared → Prop} {s : Shared} {vs : List Value}
def KeyGood (old : Addr → Prop) (k : PyData) (s1 : Shared) (v : Value) (s2 : Shared) : Prop := ∃ h' tk, s2 = { s1 with heap := h', toks := tk } ∧ (∀ b o, s1.heap.get? b = some o → h'.get? b = some o) ∧ ∃ as, Reads h' v k as ∧ ∀ x ∈ as, old x
end
end G
namespace G
open PySem PySem.Spec PyProof.Rows L2 PySem.Calls
section
variable {prog : Program} {w : World} {A : Around} {E : Value → Shared → Prop} {s : Shared} {vs : List Value} {β : Type} {bs : List β} {R : Value → β → Prop}
theorem KeyGood.imp {old old' : Addr → Prop} {k : PyData} {s1 s2 : Shared} {v : Value} (h : ∀ x, old x → old' x) (q : KeyGood old k s1 v s2) : KeyGood old' k s1 v s2 := by
 obtain ⟨h', tk, e, kp, as, r, o⟩ := q
 exact ⟨h', tk, e, kp, as, r, fun x m => h x (o x m)⟩
end
end G
namespace G
open PySem PySem.Spec PyProof.Rows L2
section
variable {X : Cx}
end
end G
namespace G
open PySem PySem.Spec PyProof.Rows L2
section
variable {K : PySem.W.Frag} {σ : L2.St} {H : Hp} {F F1 F2 : List Addr} {v u : V} {Q : VK} {α : Type} {τ : Ty α}
end
end G
namespace G
open PySem PySem.Spec PyProof.Rows L2
section
variable {P : Program} {w : World} {K : PySem.W.Frag} {σ σ' : L2.St} {H H' : Hp} {F : List Addr} {v u : V} {β : Type} {υ : Ty β} {Q : VK} {D : Ends} {g : TG} {xs : List Ent} {d : List ((Int × Int) × β)}
end
end G
namespace G
open PySem PySem.Spec PyProof.Rows L2
end G
namespace G
open PySem PySem.Spec PyProof.Rows L2 NdefX
section
variable {M : Model} {A : Around} {E : Value → Shared → Prop} {s : Shared}
end
section
variable {CX : CXT} {P : Program} {w : World} {K : PySem.W.Frag} {mg : Str → Option Value} {base : Heap} {N fr : List Str} {x : Str} {F : NF} {f : Addr} {A : Around} {outer : List Env} {s : Shared} {H : Hp} {E : XK} {u : Value} {v : V} {ws : List (Option V)}
end
def CodeF (H : Hp) (c : Addr) (q : Str) : Prop := ∃ (oc : Obj) (u : HO) (vs : Array Value) (t : Tok), H c = some (.frz oc u) ∧ oc.data = .fields vs ∧ vs[1]? = some (.str q t)
theorem CodeF.at_ {P : Program} {w : World} {H : Hp} {h : Heap} {c : Addr} {q : Str} (e : CodeF H c q) (hok : HOk P w H h) : h.CodeRec (.ref c) q := by
 obtain ⟨oc, u, vs, t, e, hd, hv⟩ := e
 exact ⟨c, oc, vs, t, rfl, (hok c _ e).1, hd, hv⟩
theorem CodeF.chg {M : List Addr} {H H' : Hp} {c : Addr} {q : Str} (e : CodeF H c q) (k : Chg M H H') : CodeF H' c q := by
 obtain ⟨oc, u, vs, t, e, r⟩ := e
 exact ⟨oc, u, vs, t, k.keep _ _ e (.inr trivial), r⟩
section
variable {CX : CXT} {P : Program} {w : World} {K : PySem.W.Frag} {mg : Str → Option Value} {base : Heap} {N fr : List Str} {x : Str} {F : NF} {f : Addr} {k : Nat} {sp : List (Option V) → Sp}
end
end G
namespace G
open PySem PySem.Spec PyProof.Rows L2 NdefX
section
variable {X : Cx} {pins : List (Addr × Obj)} {σ : L2.St} {H : Hp} {s : Shared}
end
section
variable {X : Cx}
end
end G
namespace G
open PySem PySem.Spec PyProof.Rows L2 NdefX
def TN (K : PySem.W.Frag) (Pt : Addr) (q : Str) (f c : Addr) (mk : Addr → NF) (H : Hp) : Prop := (yTab Pt q).rep K H [Pt] (.ref Pt) () ∧ H f = some (FnO f (mk c)) ∧ CodeF H c q
theorem TN.ex {K : PySem.W.Frag} {Pt f c : Addr} {q : Str} {mk : Addr → NF} {H H' : Hp} (t : TN K Pt q f c mk H) (k : Chg [] H H') : TN K Pt q f c mk H' := ⟨Ty.ex t.1 k, k.keep _ _ t.2.1 (.inl List.not_mem_nil), t.2.2.chg k⟩
end G
namespace G
open PySem PySem.Spec PyProof.Rows L2
end G
namespace G
open PySem PySem.Spec PyProof.Rows L2
section
variable {X : Cx} {K : PySem.W.Frag} {σ σ' : L2.St} {H : Hp} {F F1 F2 Fu : List Addr} {ta tb te to : TE} {v u x y : V} {i j : Int} {n m : Nat} {α β : Type} {τ : Ty α} {υ : Ty β} {Q : VK} {a b c : List Nat}
theorem w_intN (hm : Mi.sNum a = some i) (k : Q (.int i) H) : rIntS [.str (toS a)] H Q := by
 unfold Mi.sNum at hm
 split at hm
 · rename_i h
   rw [Bool.and_eq_true, Bool.and_eq_true] at h
   obtain rfl := Option.some.inj hm
   have ne : a ≠ [] := fun z => by rw [z] at h; cases h.2.1
   have hl : a.length ≤ 600 := of_decide_eq_true h.2.2
   exact ⟨toS a, _, rfl, SX.int_S h.1 ne (by omega), by rw [toS_len]; omega, k⟩
 · cases hm
theorem val_intN (hm : Mi.sNum a = some i) (ha : Val ta σ H (.str (toS a))) : Val (tCB rIntS (tCons ta tNil)) σ H (.int i) := fun Q q => ha _ (w_intN hm q)
theorem splC_is (c : Nat) : ∀ (l acc : List Nat), TL.spl [c] 0 acc l = Mi.splC c acc l
 | [], acc => TL.spl_nil [c] 0 acc
 | x :: r, acc => by
   by_cases e : x = c
   · subst e
     rw [TL.spl_hit (by simp [TL.pre])]
     show acc :: TL.spl [x] 0 [] r = _
     rw [splC_is x r []]
     show _ = if x = x then _ else _
     rw [if_pos rfl]
   · rw [TL.spl_miss (by simp [TL.pre, e]), splC_is c r]
     show _ = if x = c then _ else _
     rw [if_neg e]
def rSpl : V → List V → Hp → VK → Prop := fun x xs H Q => ∃ a b, x = .str a ∧ xs = [.str b] ∧ (b.length == 0) = false ∧ a.length + 2 ≤ sizeLine ∧ rNewStrs (Txt.split a b) H Q
theorem pe_spl {o e : Expr} {apos pos : Pos} (ho : PE X o to) (he : PE X e te) (hs : starEach [e] X.env = [(false, eval e X.env)] := by rfl) (hbase : attributeBase o "split" X.env (eval o X.env) = eval o X.env := by rfl) (hline : (apos.endLine == pos.line) = true := by rfl) :
 PE X (.Call (.Attribute o "split" apos) [e] [] pos) (tM1 rSpl to te) := pe_split ho he hs hbase hline
theorem tl_strs : ∀ {ys : List Str} {zs : List (List Nat)}, ys.map TL.tl = zs → ys = zs.map toS
 | [], zs, h => by rw [← h]; rfl
 | y :: ys, zs, h => by
   rw [← h, List.map_cons, List.map_cons, ← tl_strs (ys := ys) rfl]
   congr 1
theorem w_spl {zs : List (List Nat)} (hm : Mi.sSplit a b = some zs) (k : ∀ p H', H p = none → Chg [] H H' → (yLst yStr).rep K H' [p] (.ref p) zs → Q (.ref p) H') : rSpl (.str (toS a)) [.str (toS b)] H Q := by
 unfold Mi.sSplit at hm
 split at hm
 · rename_i c
   split at hm
   · rename_i h
     obtain rfl := Option.some.inj hm
     have e : (Txt.split (toS a) (toS [c])).map TL.tl = Mi.splC c [] a := by
       have := TL.split_spl (toS a) (toS [c]) (by show (toS [c]).cps.toList ≠ []; rw [toS_tl]; exact List.cons_ne_nil _ _) (TL.kind_ok (by
         show ([c].toArray.all fun x => decide (x < 256)) = true
         simp [h.1]))
       rw [this]
       show TL.spl (toS [c]).cps.toList 0 [] (toS a).cps.toList = _
       rw [toS_tl, toS_tl, splC_is]
     refine ⟨_, _, rfl, rfl, rfl, ?_, fun p np => ?_⟩
     · rw [toS_len]
       have := h.2
       exact Nat.le_trans (Nat.succ_le_succ (Nat.succ_le_of_lt h.2)) (by decide)
     · rw [tl_strs e]
       refine k p _ np (Chg.lay np trivial) ⟨p, _, rfl, rfl, upd_same, ?_⟩
       have gen : ∀ ws : List (List Nat), Paired (fun u x => yStr.rep K (upd H p (.lst ((Mi.splC c [] a).map toS |>.map V.str))) [] u x) ((ws.map toS).map V.str) ws := by
         intro ws
         induction ws with
         | nil => exact .nil
         | cons z ws ih => exact .cons ⟨rfl, rfl⟩ ih
       exact gen _
   · cases hm
 · cases hm
def rUp : V → List V → Hp → VK → Prop := fun x xs H Q => ∃ a, x = .str a ∧ xs = [] ∧ a.length ≤ 5592405 ∧ Q (.str (Txt.upper a)) H
theorem pe_up {o : Expr} {apos pos : Pos} (ho : PE X o to) (hbase : attributeBase o "upper" X.env (eval o X.env) = eval o X.env := by rfl) (hline : (apos.endLine == pos.line) = true := by rfl) :
 PE X (.Call (.Attribute o "upper" apos) [] [] pos) (tM0 rUp to) := pe_upper ho hbase hline
theorem w_m0 {r : V → List V → Hp → VK → Prop} (h : to σ H fun x H1 => (∃ a, x = .str a) ∧ r x [] H1 Q) : tM0 r to σ H Q := h
theorem w_up (hm : Mi.sUp a = some b) (k : Q (.str (toS b)) H) : rUp (.str (toS a)) [] H Q := by
 unfold Mi.sUp at hm
 split at hm
 · rename_i h
   rw [Bool.and_eq_true] at h
   obtain rfl := Option.some.inj hm
   refine ⟨_, rfl, rfl, by rw [toS_len]; exact Nat.le_trans (of_decide_eq_true h.2) (by decide), ?_⟩
   have e : Txt.upper (toS a) = toS (a.map Mi.upC) := SX.upper_S h.1
   rw [e]; exact k
 · cases hm
structure DatN {α : Type} (τ : Ty α) (n : Nat) where
 f : α → PyData
 ok : α → Bool
 dp : ∀ {K : PySem.W.Frag} {H : Hp} {F : List Addr} {v : V} {d : α}, τ.rep K H F v d → Dp K H v (f d)
 lay : ∀ d, ok d = true → (f d).canLay0 = true
 dpt : ∀ d, (f d).depth ≤ n
 nn : ∀ d, PyData.eqv (f d) .none = false
def dn_int : DatN yInt 0 := ⟨.int, fun _ => true, fun h => by obtain ⟨_, rfl⟩ := h; exact .int _, fun _ _ => by simp [PyData.canLay0], fun _ => by simp [PyData.depth], fun _ => by simp [PyData.eqv]⟩
def dn_bool : DatN yBool 0 := ⟨.bool, fun _ => true, fun h => by obtain ⟨_, rfl⟩ := h; exact .bl _, fun _ _ => by simp [PyData.canLay0], fun _ => by simp [PyData.depth], fun _ => by simp [PyData.eqv]⟩
def dn_str : DatN yStr 0 := ⟨dao_str.f, Mi.okS, dao_str.dp, dao_str.lay, dao_str.dpt, fun _ => by show PyData.eqv (.str _) .none = false; simp [PyData.eqv]⟩
def dn_tupl (d : DatO τ n) : DatN (yTupL τ) (n + 1) := ⟨(dao_tupl d).f, (dao_tupl d).ok, (dao_tupl d).dp, (dao_tupl d).lay, (dao_tupl d).dpt, fun _ => by show PyData.eqv (.tuple _) .none = false; simp [PyData.eqv]⟩
def dn_sum (d : DatN τ n) (e : DatN υ m) : DatN (ySum τ υ) (max n m) := ⟨fun z => match z with | .inl a => d.f a | .inr b => e.f b, Sum.elim d.ok e.ok, fun {K H F v z} h => by
 cases z with
 | inl a => exact d.dp h
 | inr b => exact e.dp h, fun z h => by
 cases z with
 | inl a => exact d.lay a h
 | inr b => exact e.lay b h, fun z => by
 cases z with
 | inl a => exact Nat.le_trans (d.dpt a) (Nat.le_max_left ..)
 | inr b => exact Nat.le_trans (e.dpt b) (Nat.le_max_right ..), fun z => by
 cases z with
 | inl a => exact d.nn a
 | inr b => exact e.nn b⟩
def nf (D : DatN τ n) : Option α → PyData
 | none => .none
 | some a => D.f a
theorem nf_dp (D : DatN τ n) {d : Option α} (r : (yOpt τ).rep K H F v d) : Dp K H v (nf D d) := by
 cases d with
 | none => obtain ⟨_, rfl⟩ := r; exact .non
 | some a => exact D.dp r.2
theorem nf_any (D : DatN τ n) (xs : List (Option α)) : ((xs.map (nf D)).any fun z => PyData.eqv z .none) = xs.any (·.isNone) := by
 induction xs with
 | nil => rfl
 | cons y ys ih =>
   rw [List.map_cons, List.any_cons, List.any_cons, ih]
   cases y with
   | none => simp [nf, PyData.eqv]
   | some a => simp [nf, D.nn]
theorem nf_in (D : DatN τ n) {xs : List (Option α)} {z : Unit} (r : (yLst (yOpt τ)).rep K H F v xs) (g : Mi.guardO (xs.all (Mi.okO D.ok)) = some z) (hn : n + 1 ≤ 64) : ∃ d ds, Dp K H .non d ∧ Dp K H v (.list ds) ∧ SeqAt.shaped d = true ∧ SeqAt.shaped (.list ds) = true ∧ (ds.any fun z => PyData.eqv z d) = xs.any (·.isNone) := by
 obtain ⟨a, vs, rfl, s, q⟩ := lst_sq r
 have ok : xs.all (Mi.okO D.ok) = true := by
   unfold Mi.guardO at g
   split at g
   · assumption
   · cases g
 refine ⟨.none, xs.map (nf D), .non, .lst s (dpAll (fun u x z => nf_dp D z) q), by decide +kernel, ?_, nf_any D xs⟩
 unfold SeqAt.shaped
 have l : PyData.canLayAll0 (xs.map (nf D)) = true := by
   refine layAllO (ok := Mi.okO D.ok) (fun d h => ?_) xs ok
   cases d with
   | none => simp [nf, PyData.canLay0]
   | some a => exact D.lay a h
 have dm : PyData.depthAll (xs.map (nf D)) ≤ n := dptAll (fun d => by
   cases d with
   | none => simp [nf, PyData.depth]
   | some a => exact D.dpt a) xs
 have l2 : (PyData.list (xs.map (nf D))).canLay0 = true := by simp only [PyData.canLay0]; exact l
 have d2 : (PyData.list (xs.map (nf D))).depth ≤ 64 := by simp only [PyData.depth]; omega
 rw [l2, decide_eq_true d2]; rfl
theorem w_inN (D : DatN τ n) {xs : List (Option α)} {z : Unit} (r : (yLst (yOpt τ)).rep K H F v xs) (g : Mi.guardO (xs.all (Mi.okO D.ok)) = some z) (k : Q (.bl (xs.any (·.isNone))) H) (hn : n + 1 ≤ 64 := by decide) : rInD K .non v H Q := by
 obtain ⟨d, ds, h1, h2, h3, h4, h5⟩ := nf_in D r g hn
 exact ⟨d, ds, h1, h2, h3, h4, by rw [h5]; exact k⟩
theorem w_niN (D : DatN τ n) {xs : List (Option α)} {z : Unit} (r : (yLst (yOpt τ)).rep K H F v xs) (g : Mi.guardO (xs.all (Mi.okO D.ok)) = some z) (k : Q (.bl (!xs.any (·.isNone))) H) (hn : n + 1 ≤ 64 := by decide) : rNotInD K .non v H Q := by
 obtain ⟨d, ds, h1, h2, h3, h4, h5⟩ := nf_in D r g hn
 exact ⟨d, ds, h1, h2, h3, h4, by rw [h5]; exact k⟩
theorem opt_sl {d : Option α} (r : (yOpt τ).rep K H F v d) : (yOpt (ySum τ υ)).rep K H F v (d.map Sum.inl) := by
 cases d with
 | none => exact r
 | some a => exact ⟨r.1, r.2⟩
theorem opt_sr {d : Option β} (r : (yOpt υ).rep K H F v d) : (yOpt (ySum τ υ)).rep K H F v (d.map Sum.inr) := by
 cases d with
 | none => exact r
 | some a => exact ⟨r.1, r.2⟩
structure KdB (K : PySem.W.Frag) (w : World) (a : Addr) (d : List (List Nat × Bool)) : Prop where
 kd : ∃ es n, KDict K w a es n
 hit : ∀ z i, Mi.dGetB d z = some i → ∃ u, PySem.W.nsIn K a (toS z) = some (some u) ∧ RelV (.bl i) u
 miss : ∀ z, Mi.dHasB d z = false → PySem.W.nsIn K a (toS z) = some none
theorem dGetB_has {d : List (List Nat × Bool)} {z : List Nat} (h : Mi.dHasB d z = true) : ∃ i, Mi.dGetB d z = some i := by
 unfold Mi.dHasB at h; unfold Mi.dGetB
 cases e : d.find? (fun p => p.1 == z) with
 | some p => exact ⟨p.2, rfl⟩
 | none =>
   rw [List.any_eq_true] at h
   obtain ⟨p, hp, hz⟩ := h
   exact absurd hz (by simpa using List.find?_eq_none.mp e p hp)
theorem KdB.ns {w : World} {a : Addr} {d : List (List Nat × Bool)} (D : KdB K w a d) (z : List Nat) : ∃ r, PySem.W.nsIn K a (toS z) = some r ∧ r.isSome = Mi.dHasB d z ∧ ∀ i, Mi.dGetB d z = some i → ∃ u, r = some u ∧ RelV (.bl i) u := by
 cases e : Mi.dHasB d z with
 | false =>
   refine ⟨none, D.miss z e, rfl, fun i hi => ?_⟩
   unfold Mi.dGetB at hi; unfold Mi.dHasB at e
   cases f : d.find? (fun p => p.1 == z) with
   | none => rw [f] at hi; cases hi
   | some p =>
     have := List.any_eq_false.mp e p (List.mem_of_find?_eq_some f)
     exact absurd (by simpa using List.find?_some f) this
 | true =>
   obtain ⟨i, hi⟩ := dGetB_has e
   obtain ⟨u, hu, ru⟩ := D.hit z i hi
   refine ⟨some u, hu, rfl, fun j hj => ?_⟩
   rw [hi] at hj
   obtain rfl := Option.some.inj hj
   exact ⟨u, rfl, ru⟩
theorem val_niKB {w : World} {a : Addr} {d : List (List Nat × Bool)} {z : List Nat} (D : KdB K w a d) (ha : Val ta σ H (.str (toS z))) (hb : Val tb σ H (.ref a)) : Val (tOp (rNiK K w) ta tb) σ H (.bl (!Mi.dHasB d z)) := val_op ha hb fun Q q => by
 obtain ⟨es, n, kd⟩ := D.kd
 obtain ⟨r, h1, h2, _⟩ := D.ns z
 exact ⟨a, es, n, toS z, r, kd, rfl, rfl, h1, by rw [h2]; exact q⟩
theorem val_ixKB {w : World} {a : Addr} {d : List (List Nat × Bool)} {z : List Nat} {i : Bool} (D : KdB K w a d) (hm : Mi.dGetB d z = some i) (ha : Val ta σ H (.ref a)) (hb : Val tb σ H (.str (toS z))) : Val (tOp (rIxD K w) ta tb) σ H (.bl i) := val_op ha hb fun Q q => by
 obtain ⟨es, n, kd⟩ := D.kd
 obtain ⟨u, hu, ru⟩ := D.hit z i hm
 exact ⟨a, toS z, .bl i, rfl, rfl, ⟨es, n, u, kd.at_, kd.lit, hu, ru⟩, q⟩
def tGetK (K : PySem.W.Frag) (w : World) (d : List (List Nat × Bool)) (td tx : TE) : TE := fun σ H Q => td σ H fun x H1 => ∃ a, x = .ref a ∧ KdB K w a d ∧ tx σ H1 fun y H2 => ∃ z : List Nat, y = .str (toS z) ∧ ∃ o : V, (yOpt yBool).rep K H2 [] o (Mi.dGetB d z) ∧ Q o H2
theorem pe_getK {o e : Expr} {apos cpos : Pos} {td tx : TE} {w : World} {d : List (List Nat × Bool)} (ho : PE X o td) (he : PE X e tx) (m : M1 X o "get" apos e cpos) (eK : X.K = K := by rfl) (ew : X.w = w := by rfl) : PE X (.Call (.Attribute o "get" apos) [e] [] cpos) (tGetK K w d td tx) := by
 subst eK ew
 refine ⟨fun pins s σ H Q I h => ?_⟩
 refine wpAny_Call_method m.base m.few m.line PySem.F.plainAttrs_dict PySem.F.slot_dict_get PySem.F.type_dict_get (thn (ho.run pins s σ H _ I h) fun u s1 ⟨x, H1, I1, rx, a, ex, D, q1⟩ => ?_)
 subst ex
 obtain rfl : u = Value.ref a := rx
 obtain ⟨es, n, kd⟩ := D.kd
 have hob := I1.kIn a _ kd.at_
 refine ⟨(PySem.W.mapOf_K (prog := X.prog) (w := X.w) I1.kIn kd.at_ kd.lit).typeIs, fun b q => ?_, ?_⟩
 · cases q
   exact ⟨_, hob, rfl⟩
 rw [m.trees]
 refine PySem.wpAny_dict_get1 (knd := PySem.strKind X.prog X.w) kd.low (thn (he.run pins s1 σ H1 _ I1 q1) fun iv s2 ⟨y, H2, I2, ry, z, ez, ov, ro, q2⟩ => ?_)
 subst ez
 obtain ⟨t, rfl⟩ := ry
 obtain ⟨r, h1, h2, h3⟩ := D.ns z
 refine ⟨toS z, _, PySem.strKind_is X.prog X.w (toS z) t, PySem.W.mapOf_K (prog := X.prog) (w := X.w) I2.kIn kd.at_ kd.lit, ?_⟩
 rw [PySem.W.find_K kd.at_ h1]
 refine ⟨ov, H2, I2.tok _, ?_, q2⟩
 cases e : Mi.dGetB d z with
 | none =>
   have : r = none := by
     cases r with
     | none => rfl
     | some u =>
       obtain ⟨i, hi⟩ := dGetB_has (d := d) (z := z) (by rw [← h2]; rfl)
       rw [e] at hi; cases hi
   subst this
   rw [e] at ro
   obtain ⟨_, rfl⟩ := ro
   rfl
 | some i =>
   obtain ⟨u, rfl, ru⟩ := h3 i e
   rw [e] at ro
   obtain ⟨_, _, rfl⟩ := ro
   exact ru
def obV : Option Bool → V
 | none => .non
 | some b => .bl b
theorem obV_r {d : Option Bool} : (yOpt yBool).rep K H [] (obV d) d := by
 cases d with
 | none => exact ⟨rfl, rfl⟩
 | some b => exact ⟨by simp [obV], rfl, rfl⟩
theorem val_getK {w : World} {a : Addr} {d : List (List Nat × Bool)} {z : List Nat} {td tx : TE} (D : KdB K w a d) (hd : Val td σ H (.ref a)) (hx : Val tx σ H (.str (toS z))) : Val (tGetK K w d td tx) σ H (obV (Mi.dGetB d z)) := fun Q q => hd _ ⟨a, rfl, D, hx _ ⟨z, rfl, _, obV_r, q⟩⟩
end
end G
namespace L2
open PySem PySem.Spec PyProof.Rows
abbrev PIt := Str ⊕ (Str × Nat)
inductive PatL (X : Cx) : List Pattern → List PIt → Prop
 | nil : PatL X [] []
 | lit {ps sp} {c : Str} {k p1 p2} : PatL X ps sp → PatL X (.MatchValue (.Constant (.str c) k p1) p2 :: ps) (.inl c :: sp)
 | cap {ps sp} {n : Str} {i p} : X.N[i]? = some n → X.env.scope.names.lookup n = some .local → PatL X ps sp → PatL X (.MatchAs none (some n) p :: ps) (.inr (n, i) :: sp)
def capsOf : List PIt → List (Str × Nat)
 | .inl _ :: sp => capsOf sp
 | .inr q :: sp => q :: capsOf sp
 | [] => []
def msS : List PIt → List Str → Option (List Str)
 | [], [] => some []
 | .inl c :: sp, y :: ys => if y = c then msS sp ys else none
 | .inr _ :: sp, y :: ys => (msS sp ys).map (y :: ·)
 | _, _ => none
section
variable {X : Cx} {cs : List MatchCase} {tr : V → TS} {tb : TS} {body : List Stmt} {p3 pos : Pos} {e : Expr} {te : TE} {tm : V → TS}
theorem each_L {pins : List (Addr × Obj)} {σ : St} {H : Hp} {ps : List Pattern} {sp : List PIt} (hp : PatL X ps sp) : ∀ {ys : List Str} {us : List Value} {s : Shared} {Q : Option (List (Str × Value)) → Shared → Prop}, Vals (ys.map V.str) us → ys.length = sp.length → Inv X pins σ H s →
   (∀ s', Inv X pins σ H s' → msS sp ys = none → Q none s') → (∀ s' zs vs, Inv X pins σ H s' → msS sp ys = some zs → Vals (zs.map V.str) vs → zs.length = (capsOf sp).length → Q (some (((capsOf sp).map (·.1)).zip vs)) s') → wpAny (model X.prog X.w) X.A (matchEach ps X.env us) Q X.xe s := by
 induction hp with
 | nil =>
   intro ys us s Q rv hl I _ hs
   have hy : ys = [] := List.length_eq_zero_iff.mp hl
   subst hy
   cases rv
   unfold matchEach
   exact wpAny_pure (hs s [] [] I rfl .nil rfl)
 | @lit ps sp c k p1 p2 _ ih =>
   intro ys us s Q rv hl I hn hs
   cases ys with
   | nil => cases hl
   | cons y ys =>
     cases rv with
     | @cons _ u0 _ us r0 rs =>
       have hl' : ys.length = sp.length := by simpa using hl
       show wpAny _ _ (matchEach (.MatchValue (.Constant (.str c) k p1) p2 :: ps) X.env (u0 :: us)) _ _ _
       unfold matchEach
       refine wpAny_bind (wpAny_holding ?_)
       unfold matchPattern
       refine wpAny_bind (thn ((show PE X (.Constant (.str c) k p1) (tC (.str c)) from pe_str).run pins _ σ H (fun v H1 => v = .str c ∧ H1 = H) I ⟨rfl, rfl⟩) fun v s1 hv => ?_)
       obtain ⟨x1, H1, I2, rv1, e1, e2⟩ := hv
       subst e1
       rw [e2] at I2
       refine wpAny_bind (wpAny_standAt ?_)
       refine wpAny_bind (thn (op_eq pins s1 σ _ (.str y) (.str c) u0 v (fun b H2 => b = .bl (decide (V.str y = V.str c)) ∧ H2 = H) I2 r0 rv1 ⟨rfl, rfl, rfl⟩) fun b s2 hb2 => ?_)
       obtain ⟨x2, H2, I3, rb, e3, e4⟩ := hb2
       subst e3
       rw [e4] at I3
       obtain rfl : b = Value.bool (decide (V.str y = V.str c)) := rb
       refine wpAny_bind (wpAny_truthy_bool ?_)
       by_cases hw : y = c
       · have hd : V.str y = V.str c := congrArg V.str hw
         rw [decide_eq_true hd, if_pos rfl]
         refine wpAny_pure ?_
         refine wpAny_bind (wpAny_holding ?_)
         refine ih rs hl' I3 (fun s' I' h => wpAny_pure (hn s' I' ?_)) (fun s' zs vs I' h rz hz => wpAny_pure ?_)
         · show (if y = c then msS sp ys else none) = none
           rw [if_pos hw]; exact h
         · refine hs s' zs vs I' ?_ rz hz
           show (if y = c then msS sp ys else none) = some zs
           rw [if_pos hw]; exact h
       · have hne : ¬ (V.str y = V.str c) := fun z => hw (V.str.inj z)
         rw [decide_eq_false hne, if_neg Bool.false_ne_true]
         refine wpAny_pure (wpAny_pure (hn s2 I3 ?_))
         show (if y = c then msS sp ys else none) = none
         rw [if_neg hw]
 | @cap ps sp n i p _ _ _ ih =>
   intro ys us s Q rv hl I hn hs
   cases ys with
   | nil => cases hl
   | cons y ys =>
     cases rv with
     | @cons _ u0 _ us r0 rs =>
       have hl' : ys.length = sp.length := by simpa using hl
       show wpAny _ _ (matchEach (.MatchAs none (some n) p :: ps) X.env (u0 :: us)) _ _ _
       unfold matchEach
       refine wpAny_bind (wpAny_holding ?_)
       unfold matchPattern
       refine wpAny_pure ?_
       refine wpAny_bind (wpAny_holding ?_)
       refine ih rs hl' I (fun s' I' h => wpAny_pure (hn s' I' ?_)) (fun s' zs vs I' h rz hz => wpAny_pure ?_)
       · show (msS sp ys).map (y :: ·) = none
         rw [h]; rfl
       · refine hs s' (y :: zs) (u0 :: vs) I' ?_ (.cons r0 rz) (by show zs.length + 1 = (capsOf sp).length + 1; rw [hz])
         show (msS sp ys).map (y :: ·) = some (y :: zs)
         rw [h]; rfl
theorem pat_len {ps : List Pattern} {sp : List PIt} (hp : PatL X ps sp) : ps.length = sp.length := by
 induction hp with
 | nil => rfl
 | lit _ ih => rw [List.length_cons, List.length_cons, ih]
 | cap _ _ _ ih => rw [List.length_cons, List.length_cons, ih]
theorem pat_caps {ps : List Pattern} {sp : List PIt} (hp : PatL X ps sp) : Paired (fun (q : Str × Pos) i => X.N[i]? = some q.1 ∧ X.env.scope.names.lookup q.1 = some .local) ((capsOf sp).map fun q => (q.1, (⟨0, 0, 0, 0⟩ : Pos))) ((capsOf sp).map (·.2)) := by
 induction hp with
 | nil => exact .nil
 | lit _ ih => exact ih
 | cap h1 h2 _ ih => exact .cons ⟨h1, h2⟩ ih
def tSeqL (K : PySem.W.Frag) (sp : List PIt) (tb : TS) (tr : V → TS) : V → TS := fun x D σ H => ∃ a, ∃ ys : List Str, x = .ref a ∧ SqL K H a (ys.map V.str) ∧ (ys.length ≠ sp.length → tr x D σ H) ∧ (ys.length = sp.length → (msS sp ys = none → tr x D σ H) ∧ ∀ zs, msS sp ys = some zs → tb D (putAll σ ((capsOf sp).map (·.2)) (zs.map V.str)) H)
theorem mt_seqL {ps : List Pattern} {sp : List PIt} (hp : PatL X ps sp) (hc : X.calm = true) (hN : X.N.Nodup) (hb : PSs X body tb) (hr : PMt X cs tr)
   (hstar : ps.findIdx? (·.isStar) = none) (hwild : (ps.all fun p => p.isWildcard || (p.isStar && p.names.isEmpty)) = false) :
   PMt X (⟨.MatchSequence ps p3, none, body⟩ :: cs) (tSeqL X.K sp tb tr) := by
 refine ⟨fun pins s σ H D x u first I r h => ?_⟩
 obtain ⟨a, ys, rfl, sq, hne, heq⟩ := h
 obtain rfl : u = Value.ref a := r
 obtain ⟨its, rv, pl, hz⟩ := I.list sq
 have ht : s.heap.IsList a its.toArray := by
   obtain ⟨o, m, e, c, d, q⟩ := pl
   exact ⟨o, e, c, m, q⟩
 have hlen : its.length = ys.length := by have := rv.length; simpa using this.symm
 have hsz : its.toArray.size = ys.length := by simpa using hlen
 have hpl := pat_len hp
 have hfit : (its.toArray.size : Int) < 2 ^ 63 := by
   rw [hsz]
   have := hz
   rw [sizeLine_eq] at this
   simp only [List.length_map] at this
   omega
 unfold matchCases
 refine wpAny_bind (wpAny_holding ?_)
 by_cases hl : ys.length = sp.length
 · obtain ⟨h0, h1⟩ := heq hl
   have hl2 : its.toArray.size = ps.length := by rw [hsz, hpl, hl]
   refine matchSeq_list_hit ht hfit hl2 ?_ hstar hwild
   rw [← hl2]
   refine PySem.W.kun_itemsOf (s := { s with toks := s.toks + 1 + 1 }) (I.ok.hd hc) ht fun h' hx' => ?_
   have I1 : Inv X pins σ H { s with heap := h', toks := s.toks + 1 + 1 } := I.kept (h' := h') (t' := s.toks + 1 + 1) fun b o eb => hx' b o (Nat.ne_of_lt (Heap.lt_size eb)) eb
   refine each_L hp rv hl I1 (fun s' I' h => ?_) (fun s' zs vs I' h rz hz' => ?_)
   · exact hr.run pins s' σ H D (.ref a) (.ref a) false I' rfl (h0 h)
   · have hv : vs.length = (capsOf sp).length := by rw [← rz.length]; simpa using hz'
     have e1 : (((capsOf sp).map fun q => (q.1, (⟨0, 0, 0, 0⟩ : Pos))).map (·.1)) = (capsOf sp).map (·.1) := by rw [List.map_map]; rfl
     show wpAny _ _ (do
         holding _ (assignInOrder ((((capsOf sp).map (·.1)).zip vs).map fun (n, _) => bindName X.env n) ((((capsOf sp).map (·.1)).zip vs).map (·.2)))
         let ok ← pure true
         if ok then execs body X.env else matchCases cs X.env (.ref a) false) _ _ _
     rw [← e1]
     refine wpAny_bind (wpAny_holding (put_all hN (pat_caps hp) rz (by rw [List.length_map, hv]) I' fun s3 I4 => wpAny_bind (wpAny_pure ?_)))
     show wpAny _ _ (if true = true then execs body X.env else matchCases cs X.env (.ref a) false) _ _ _
     rw [if_pos rfl]
     exact hb.run pins s3 _ H D I4 (h1 zs h)
 · refine matchSeq_list_miss ht hfit (by rw [hsz, hpl]; exact hl) ?_ hstar hwild
   exact hr.run pins _ σ H D (.ref a) (.ref a) false (I.tok _) rfl (hne hl)
end
end L2
namespace G
open PySem PySem.Spec PyProof.Rows L2
section
variable {K : PySem.W.Frag} {σ : L2.St} {H : Hp} {F : List Addr} {v : V} {D : Ends} {tb : TS} {tr : V → TS}
def piM : PIt → Option (List Nat)
 | .inl c => some c.cps.toList
 | .inr _ => none
theorem msS_is : ∀ (sp : List PIt) (xs : List (List Nat)), msS sp (xs.map toS) = (Mi.msL (sp.map piM) xs).map (·.map toS)
 | [], [] => rfl
 | [], _ :: _ => rfl
 | .inl c :: sp, [] => rfl
 | .inr q :: sp, [] => rfl
 | .inl c :: sp, x :: xs => by
   show (if toS x = c then msS sp (xs.map toS) else none) = (if x = c.cps.toList then Mi.msL (sp.map piM) xs else none).map _
   by_cases e : x = c.cps.toList
   · rw [if_pos e, if_pos (by rw [e]; exact (toS_of rfl).symm), msS_is sp xs]
   · rw [if_neg e, if_neg (fun z => e (by rw [← z, toS_tl]))]; rfl
 | .inr q :: sp, x :: xs => by
   show (msS sp (xs.map toS)).map (toS x :: ·) = ((Mi.msL (sp.map piM) xs).map (x :: ·)).map _
   rw [msS_is sp xs]
   cases Mi.msL (sp.map piM) xs <;> rfl
theorem w_msL {xs : List (List Nat)} {sp : List PIt} {ms : List (Option (List Nat))} {z : Option (List (List Nat))} (r : (yLst yStr).rep K H F v xs) (hz : Mi.msq ms xs = some z) (em : ms = sp.map piM) (h1 : ∀ ys, z = some ys → tb D (putAll σ ((capsOf sp).map (·.2)) (ys.map fun y => V.str (toS y))) H) (h2 : z = none → tr v D σ H) : tSeqL K sp tb tr v D σ H := by
 obtain ⟨a, vs, rfl, s, q⟩ := lst_sq r
 obtain rfl := strs_mk q
 obtain rfl := Option.some.inj hz
 have e := msS_is sp xs
 rw [← em] at e
 refine ⟨a, xs.map toS, rfl, s, fun hl => h2 (Mi.msL_len (by rw [em]; simpa using hl)), fun hl => ⟨fun h => h2 ?_, fun zs h => ?_⟩⟩
 · rw [h] at e
   cases k : Mi.msL ms xs with
   | none => rfl
   | some ys => rw [k] at e; cases e
 · rw [h] at e
   cases k : Mi.msL ms xs with
   | none => rw [k] at e; cases e
   | some ys =>
     rw [k] at e
     obtain rfl := Option.some.inj e
     rw [List.map_map]
     exact h1 ys k
end
end G
namespace G
open PySem PySem.Spec PyProof.Rows L2
section
variable {X : Cx} {K : PySem.W.Frag} {σ σ' : L2.St} {H : Hp} {F F1 F2 Fu : List Addr} {ta tb te to : TE} {v u x y : V} {i j : Int} {n m : Nat} {α β : Type} {τ : Ty α} {υ : Ty β} {Q : VK} {a b c : List Nat}
theorem pr_somes : ∀ {us : List V} {xs : List (Option α)} {ns : List α}, Paired (fun u x => (yOpt τ).rep K H [] u x) us xs → Mi.somes xs = some ns → Paired (fun u x => τ.rep K H [] u x) us ns
 | _, _, _, .nil, h => by obtain rfl := Option.some.inj h; exact .nil
 | _, none :: _, _, .cons _ _, h => by cases h
 | _, some x :: xs, ns, .cons r q, h => by
   obtain ⟨ys, h1, h2⟩ := Mi.bnd h
   obtain rfl := Option.some.inj h2
   exact .cons r.2 (pr_somes q h1)
theorem star_o {xs : List (Option α)} {ns : List α} (r : (yLst (yOpt τ)).rep K H F v xs) (h : Mi.somes xs = some ns) : ∃ p us, v = .ref p ∧ SqL K H p us ∧ Paired (fun u x => τ.rep K H [] u x) us ns := by
 obtain ⟨a, vs, rfl, s, q⟩ := lst_sq r
 exact ⟨a, vs, rfl, s, pr_somes q h⟩
theorem pr_i5 {us : List V} {ns : List Int} (q : Paired (fun u x => yInt.rep K H [] u x) us ns) : Paired (fun u x => y5.rep K H [] u x) us (ns.map Sum.inl) := by
 induction q with
 | nil => exact .nil
 | cons r _ ih => exact .cons r ih
theorem pr_appS {α β : Type} {R : α → β → Prop} {us ws : List α} {ns es : List β} (q : Paired R us ns) (p : Paired R ws es) : Paired R (us ++ ws) (ns ++ es) := by
 induction q with
 | nil => exact p
 | cons r _ ih => exact .cons r ih
theorem e_tupS {v0 : V} {us ws : List V} {x0 : α} {ns es : List α} {z : Unit} (g : Mi.guardO (decide (ns.length ≤ 1000)) = some z) (hw : ws.length ≤ 1000) (r0 : τ.rep K H [] v0 x0) (ru : Paired (fun u x => τ.rep K H [] u x) us ns) (rw' : Paired (fun u x => τ.rep K H [] u x) ws es) (k : ∀ p H', H p = none → Chg [] H H' → (yTupL τ).rep K H' [] (.ref p) (x0 :: (ns ++ es)) → Q (.ref p) H') : TupG (v0 :: (us ++ ws)) H Q := by
 have gl : ns.length ≤ 1000 := by
   unfold Mi.guardO at g
   split at g
   · rename_i h; exact of_decide_eq_true h
   · cases g
 have ul := pr_len ru
 refine e_tupl (K := K) (τ := τ) ?_ (.cons r0 (pr_appS ru rw')) k
 rw [List.length_cons, List.length_append, ul]
 exact Nat.le_trans (show ns.length + ws.length + 1 ≤ 2001 by omega) (by decide)
def dn5 : DatN y5 1 := dn_sum dn_int (dn_sum dn_str (dn_sum dn_bool (dn_sum (dn_tupl dat_int.o) (dn_tupl dat_bool.o))))
theorem w_eqT5 {d : Option Mi.U5} {s : List Nat} {z : Unit} (r : (yOpt y5).rep K H F v d) (g : Mi.guardO (Mi.okO Mi.ok5 d && Mi.okS s) = some z) (k : Q (.bl (Mi.eqTx s d)) H) : rEqD K v (.str (toS s)) H Q := by
 obtain ⟨g1, g2⟩ := okB g
 have e : PyData.eqv (nf dn5 d) (.str (toS s)) = Mi.eqTx s d := by
   rcases d with _ | i | l | b | xs | xs
   · show PyData.eqv .none _ = false; simp [PyData.eqv]
   · show PyData.eqv (.int i) _ = false; simp [PyData.eqv]
   · exact dao_str.eqv l s
   · show PyData.eqv (.bool b) _ = false; simp [PyData.eqv]
   · show PyData.eqv (.tuple _) _ = false; simp [PyData.eqv]
   · show PyData.eqv (.tuple _) _ = false; simp [PyData.eqv]
 have s1 : SeqAt.shaped (nf dn5 d) = true := by
   unfold SeqAt.shaped
   have l : (nf dn5 d).canLay0 = true := by
     cases d with
     | none => simp [nf, PyData.canLay0]
     | some a => exact dn5.lay a g1
   have dp : (nf dn5 d).depth ≤ 64 := by
     cases d with
     | none => simp [nf, PyData.depth]
     | some a => exact Nat.le_trans (dn5.dpt a) (by decide)
   rw [l, decide_eq_true dp]; rfl
 exact ⟨_, _, nf_dp dn5 r, .str _, s1, dao_str.shaped (by decide) s g2, by rw [e]; exact k⟩
theorem w_tupleLo {xs : List (Option α)} {ns : List α} (r : (yLst (yOpt τ)).rep K H F v xs) (h : Mi.somes xs = some ns) (k : ∀ v' H', Chg [] H H' → (yTupL τ).rep K H' [] v' ns → Q v' H') : rTupleQ K [v] H Q := by
 obtain ⟨p, vs, rfl, s, q⟩ := lst_sq r
 exact ⟨p, vs, rfl, .inl ⟨s, fun n nn => k _ _ (Chg.lay nn trivial) ⟨n, _, rfl, rfl, .inl (.inl upd_same), Paired.mapP (pr_somes q h) fun _ _ z => Ty.ex z (Chg.lay nn trivial)⟩⟩⟩
theorem pr_sumR {γ : Type} {ρ : Ty γ} {d : γ × (α ⊕ β)} {e : γ × β} (r : (yTup (sCons ρ (sOne (ySum τ υ)))).rep K H F v d) (h : Mi.prSR d = some e) : (yTup (sCons ρ (sOne υ))).rep K H F v e := by
 obtain ⟨p, vs, rfl, s, u, ws, G1, G2, rfl, rfl, r1, w, rfl, r2⟩ := r
 obtain ⟨d1, d2⟩ := d
 cases d2 with
 | inl a => cases h
 | inr b =>
   obtain rfl := Option.some.inj h
   exact ⟨p, _, rfl, s, u, _, G1, G2, rfl, rfl, r1, w, rfl, r2⟩
theorem pr_sumLf {F : List Addr} {d : Bool × (Int ⊕ β)} {e : Bool × Int} (r : (yTup (sCons yBool (sOne (ySum yInt υ)))).rep K H F v d) (h : Mi.prSL d = some e) : F = [] ∧ (yTup (sCons yBool (sOne yInt))).rep K H [] v e := by
 obtain ⟨p, vs, rfl, s, u, ws, G1, G2, rfl, rfl, r1, w, rfl, r2⟩ := r
 obtain ⟨d1, d2⟩ := d
 cases d2 with
 | inl a =>
   obtain rfl := Option.some.inj h
   have g1 : G1 = [] := r1.1
   have g2 : G2 = [] := r2.1
   subst g1 g2
   exact ⟨rfl, p, _, rfl, s, u, _, [], [], rfl, rfl, r1, w, rfl, r2⟩
 | inr b => cases h
theorem pr_sumO {γ : Type} {ρ : Ty γ} {d : γ × Option α} {e : γ × α} (r : (yTup (sCons ρ (sOne (yOpt τ)))).rep K H F v d) (h : Mi.prSO d = some e) : (yTup (sCons ρ (sOne τ))).rep K H F v e := by
 obtain ⟨p, vs, rfl, s, u, ws, G1, G2, rfl, rfl, r1, w, rfl, r2⟩ := r
 obtain ⟨d1, d2⟩ := d
 cases d2 with
 | none => cases h
 | some a =>
   obtain rfl := Option.some.inj h
   exact ⟨p, _, rfl, s, u, _, G1, G2, rfl, rfl, r1, w, rfl, r2.2⟩
theorem kdb_of {w : World} {a : Addr} {d : List (List Nat × Bool)} (h : He.dicW K a = some (He.keysIn w.params (d.map fun p => toS p.1))) (hv : He.valsB K a (d.map fun p => (toS p.1, He.Dv.bl p.2)) = true) : KdB K w a d where
 kd := He.dicW_ok h
 hit := fun z i hz => by
   unfold Mi.dGetB at hz
   cases e : d.find? (fun p => p.1 == z) with
   | none => rw [e] at hz; cases hz
   | some p =>
     rw [e] at hz
     obtain rfl := Option.some.inj hz
     have hp := List.mem_of_find?_eq_some e
     have hk : p.1 = z := by simpa using List.find?_some e
     have := He.valsB_ok hv (q := (toS p.1, He.Dv.bl p.2)) (List.mem_map.mpr ⟨p, hp, rfl⟩)
     rw [← hk]; exact this
 miss := fun z hz => ns_miss h fun hm => by
   obtain ⟨p, hp, he⟩ := List.mem_map.mp hm
   unfold Mi.dHasB at hz
   have := (List.any_eq_false.mp hz) p hp
   exact this (by rw [toS_inj he]; simp)
end
end G
namespace PySem
namespace ErrI_line
open PySem.W PySem.Calls PyProof.Rows PySem.HandSPX
open PySem.ErrX (ldX one_size)
def eA (p1 p2 : Pos) : Arguments := { posonlyargs := [], args := [{ arg := "self", annotation := none, pos := p1 }, { arg := "line", annotation := none, pos := p2 }], vararg := none, kwonlyargs := [], kw_defaults := [], kwarg := none, defaults := [] }
def eB (m : Str) (p0 p1 p2 p3 p4 p5 p6 p7 q1 q2 q3 q4 r5 r6 : Pos) : List Stmt :=
 [.Expr (.Call (.Attribute (.Call (.Name "super" p0) [] [] p1) "__init__" p2) [.BinOp (.Constant (.str m) 0 p3) .Add (.Call (.Name "str" r5) [.Name "line" p4] [] r6) p5] [] p6) p7, .Assign [.Attribute (.Name "self" q1) "line" q2] (.Name "line" q3) q4]
def eS : Scope := { kind := .function, names := [(PySem.Str.ofString "self", .local), (PySem.Str.ofString "line", .local), (PySem.Str.ofString "__class__", .free), (PySem.Str.ofString "super", .globalImplicit), (PySem.Str.ofString "str", .globalImplicit)], isGenerator := false, isCoroutine := false, more := [] }
structure ErrTxt (P : Program) (K : Frag) (mg : Str → Option Value) (x qual : Str) (st : Stmt) (C fI : Addr) : Prop where
 gC : mg x = some (.ref C)
 cls : ∃ nm q N bs bm sn sub ab col dd k0 k1 k2 k3 k5, K.lookup C = some (excClassObj nm q C N bs bm true sn sub ab col dd k0 k1 k2 k3 k5 "ValueError.__new__") ∧ refsVE bm = true
 sa : findIn K (.ref C) "__setattr__" = some (some (.builtin "object.__setattr__"))
 ga : findIn K (.ref C) "__getattribute__" = some (some (.builtin "BaseException.__getattribute__"))
 gg : findIn K (.ref C) "__getattr__" = some none
 noN : findIn K (.ref C) "line" = some none
 iC : findIn K (.ref C) "__init__" = some (some (.ref fI))
 tC : typeIn K (.ref fI) = some (.type "function")
 kC : keepIn K (.ref C) = true
 exC : subIn K (.ref C) (.type "BaseException") = some true
 veC : subIn K (.ref C) (.type "ValueError") = some true
 tyC : typeIn K (.ref C) = some (.type "type")
 hdC : hasDictIn K C = true
 mroC : mroIn K C (.ref C) = some true
 sup : ks_superIn K C C "__init__" = some (some (.builtin "ValueError.__init__"))
 opq : nsIn K cStatics "thirdparty.any" = some none
 nsu : mg "super" = none
 nst : mg "str" = none
 top : (P.main.scope.names.lookup ("super" : Str)).isSome = false
 fn : ∃ (oc : Value) (od : Option Addr) (doc pm : Value) (an : Option Addr) (cda : Addr) (ct : Value) (cc : Addr) (osl : Array (Option Value)),
   K.lookup fI = some ⟨oc, od, .func (ksFn "__init__" qual (L2.defArgs st) (L2.defBody st) (L2.defScope st) .none .none doc pm an (.ref cda) ct cc), osl⟩ ∧ codeIn K (.ref cda) qual = true ∧
   (∃ (ccl : Value) (cdd : Option Addr) (vs : Array Value) (ccs : Array (Option Value)) (file : Str) (tf : Tok), K.lookup cda = some ⟨ccl, cdd, .fields vs, ccs⟩ ∧ vs[2]? = some (.str file tf) ∧ ((P.main.file : Str) == file) = true) ∧
   ∃ (cl : Value) (cld : Option Addr) (csl : Array (Option Value)), K.lookup cc = some ⟨cl, cld, .cell (some (.ref C)), csl⟩
 shape : ∃ (msg : Str) (r1 r2 p0 p1 p2 p3 p4 p5 p6 p7 q1 q2 q3 q4 r5 r6 : Pos), L2.defArgs st = eA r1 r2 ∧ L2.defBody st = eB msg p0 p1 p2 p3 p4 p5 p6 p7 q1 q2 q3 q4 r5 r6 ∧ L2.defScope st = eS ∧ msg.length ≤ 100 ∧
   ∀ L f cda cc : Addr, ∃ pl : Sem Bool, eval (.Call (.Attribute (.Call (.Name "super" p0) [] [] p1) "__init__" p2) [.BinOp (.Constant (.str msg) 0 p3) .Add (.Call (.Name "str" r5) [.Name "line" p4] [] r6) p5] [] p6) (ksEnv qual eS L f (.ref cda) cc) = (do
     let ov ← attributeBase (.Call (.Name "super" p0) [] [] p1) "__init__" (ksEnv qual eS L f (.ref cda) cc) (eval (.Call (.Name "super" p0) [] [] p1) (ksEnv qual eS L f (.ref cda) cc))
     standAt p2.atName
     let (f', first) ← holding [ov] (getMethod ov "__init__" pl)
     callWith p6 f' first (backTo p6 (starEach [.BinOp (.Constant (.str msg) 0 p3) .Add (.Call (.Name "str" r5) [.Name "line" p4] [] r6) p5] (ksEnv qual eS L f (.ref cda) cc))) [])
structure InitEnd (h h' : Heap) (x C dx : Addr) (v : Value) : Prop where
 keep : ∀ b o, b ≠ x → h.get? b = some o → h'.get? b = some o
 obj : ∃ t1 : Addr, h'.get? x = some { cls := .ref C, dict := some dx, data := .fields #[.ref t1, .none, .none, .none, .bool false, .none] }
 dbig : h.objs.size ≤ dx
 dne : dx ≠ x
 ns : h'.Ns1 dx (fun y => if y = "line" then some v else none)
section
variable {prog : Program} {w : World} {A : Around} {E : Value → Shared → Prop} {R : Result → Shared → Prop} {s : Shared} {K : Frag} {mg mb : Str → Option Value} {C fI : Addr} {cn qual : Str} {st : Stmt}
theorem err_init (T : ErrTxt prog K mg cn qual st C fI) {x t0 : Addr} {y : Int} {ty : Tok} (X : K.In s.heap) (hg : s.heap.Ns mainGlobals mg) (hb : s.heap.Ns builtinsNs mb) (hbs : mb "super" = bootBuiltins "super") (hbt : mb "str" = bootBuiltins "str") (hlim : s.heap.NoLimit) (hx : s.heap.get? x = some (excO C t0)) (hnx : K.lookup x = none) (hy : y.natAbs.log2 < 1920) (hroom : A.depth < recursionLimit)
   (hq : ∀ h' tk dx, InitEnd s.heap h' x C dx (.int y ty) → R (.ok (.ret .none)) { s with heap := h', toks := tk }) :
   codeAny (model prog w) A (.call (.ref fI) ⟨[.ref x, .int y ty], []⟩) R s := by
 obtain ⟨oc, od, doc, pm, an, cda, ct, cc, osl, ho, hcd, ⟨ccl, cdd, vs, ccs, file, tf, hcode, hvs, hfile⟩, cl, cld, csl, hcell⟩ := T.fn
 obtain ⟨msg, r1, r2, p0, p1, p2, p3, p4, p5, p6, p7, q1, q2, q3, q4, r5, r6, eA', eB', eS', hml, hev⟩ := T.shape
 rw [eA', eB', eS'] at ho
 obtain ⟨nm, q, N, bs, bm, sn, sub, ab, col, dd, k0, k1, k2, k3, k5, hC, hbm⟩ := T.cls
 have hcl : clsIn K C = some { name := nm, bases := bs, mro := .ref C :: bm, ns := N, qualname := q, hasDict := true, slotNames := sn, subclasses := sub, abstract := ab, collection := col, hasDel := false } := by unfold clsIn; rw [hC] <;> rfl
 refine ks_codeAny_call_defAt (fd := ksFn "__init__" qual (eA r1 r2) (eB msg p0 p1 p2 p3 p4 p5 p6 p7 q1 q2 q3 q4 r5 r6) eS .none .none doc pm an (.ref cda) ct cc) (body := eB msg p0 p1 p2 p3 p4 p5 p6 p7 q1 q2 q3 q4 r5 r6) (binds := [("self", .ref x), ("line", .int y ty)]) hroom (X _ _ ho) rfl hlim (codeRec_of X hcd) rfl (BindsTo.of_eq (by first | rfl | with_unfolding_all rfl)) (fun z hz => by revert z; show ∀ z ∈ eS.names, z.2 ≠ NameKind.cell; decide) (by first | decide | (intro z hz; simp at hz; rcases hz with rfl | rfl <;> rfl)) (fun h₁ hns k => ?_) rfl rfl rfl
 have X₁ : K.In h₁ := X.keeps k
 have hx₁ := k _ _ hx
 show wpAt (model prog w) _ _ (execs (_ :: _) (ksEnv qual eS s.heap.objs.size fI (.ref cda) cc)) _ _ _
 obtain ⟨pl, he⟩ := hev s.heap.objs.size fI cda cc
 refine ks_wpAt_execs_cons (ks_wpAt_Expr_any (ks_wpAt_MethodCall (pl := pl) (he := he) ?_))
 obtain ⟨oD, hD1, hD2⟩ : ∃ oD, h₁.get? C = some oD ∧ oD.data = .cls { name := nm, bases := bs, mro := .ref C :: bm, ns := N, qualname := q, hasDict := true, slotNames := sn, subclasses := sub, abstract := ab, collection := col, hasDel := false } := ⟨_, X₁ _ _ hC, rfl⟩
 refine ks_wpAt_super_base (env := ksEnv qual eS s.heap.objs.size fI (.ref cda) cc) rfl rfl rfl rfl (X₁ _ _ ho) rfl rfl rfl (X₁ _ _ hcode) rfl hvs hfile T.top ?_
 refine ks_loadName_global rfl rfl (loadGlobal_builtin (env := ksEnv qual eS s.heap.objs.size fI (.ref cda) cc) (hg.keeps k) T.nsu (hb.keeps k) (hbs.trans (by decide +kernel)) ⟨rfl, ?_⟩)
 refine wpAny_loadName_free rfl rfl rfl ⟨_, X₁ _ _ hcell, rfl⟩ ?_
 refine wpAny_loadName_local rfl rfl hns (v := .ref x) rfl ?_
 refine ks_wpAny_isType_cls hD1 hD2 ⟨rfl, ?_⟩
 refine ks_wpAny_call_super hD1 hD2 hx₁ rfl (fun c e => by cases e) (looks_mroIn X₁ T.mroC) (fun h₂ hso k₂ => ?_)
 have X₂ : K.In h₂ := X₁.keeps k₂
 have hx₂ := k₂ _ _ hx₁
 have I₂ : InstAt h₂ x (excO C t0) C none := ⟨hx₂, rfl, rfl, trivial⟩
 have hI : Looks (model prog w) h₂ (isInstance (.ref x) (.type "ValueError")) true := I₂.type.andThen (looks_subIn X₂ T.veC)
 have hsup := T.sup
 unfold ks_superIn at hsup
 rw [hcl] at hsup
 refine kxs_getMethod kxs_ValueError hso (looks_opaque X₂ T.opq) (l₀ := .ref C :: bm) (fun A Q E s k q => wpAny_bind ((looks_clsIn X₂ hcl) A _ E s k (wpAny_pure q))) rfl X₂ hsup hI (ks_ne X₂ I₂ hcl) rfl ?_
 have k₃ : ∀ b o, h₂.get? b = some o → (h₂.push (kxs_mw "ValueError.__init__" x)).get? b = some o := fun b o e => Heap.get?_push_of_some _ e
 have hu : (h₂.push (kxs_mw "ValueError.__init__" x)).get? h₂.objs.size = some (kxs_mw "ValueError.__init__" x) := Heap.get?_push_at rfl rfl
 have hns₃ : (h₂.push (kxs_mw "ValueError.__init__" x)).Ns s.heap.objs.size (fun y' => ([("self", .ref x), ("line", Value.int y ty)] : List (Str × Value)).reverse.lookup y') := (hns.keeps k₂).keeps k₃
 refine kxs_callWith (i := "ValueError.__init__") (x := x) rfl (evalArgs_plain (args_cons (wpAny_BinOp (wpAny_Constant_str ?_)) rfl))
 refine wpAny_Call_Name_kw (wpAny_Name (ks_loadName_global (env := ksEnv qual eS s.heap.objs.size fI (.ref cda) cc) rfl rfl (loadGlobal_builtin (env := ksEnv qual eS s.heap.objs.size fI (.ref cda) cc) (((hg.keeps k).keeps k₂).keeps k₃) T.nst (((hb.keeps k).keeps k₂).keeps k₃) (v := .type "str") (hbt.trans (by decide +kernel)) ?_)) (by decide))
 refine PyProof.Rows.callWith_type1 (args_cons (ldX hns₃ (v := .int y ty) rfl ?_) rfl)
 refine args_nil (P.str_of_int hy ?_)
 refine add_str (fun t' tk => args_nil ⟨hu, ?_⟩) (by
   rw [ofString_length, sizeLine_eq]
   have := int_text_length_le (k := 1920) (by decide) hy
   omega)
 refine wpAny_call (codeAny_of_tree ?_)
 show wpAny _ _ (callAny (.ref h₂.objs.size) ⟨_, []⟩) _ _ _
 simp only [callAny]
 refine wpAny_bind (wpAny_load hu ?_)
 simp only [kxs_mw, show (Value.type "method-wrapper" == Value.type "method" || Value.type "method-wrapper" == Value.type "builtin_function_or_method" || Value.type "method-wrapper" == Value.type "method-wrapper") = true by decide, if_true]
 refine KFB.if_so (by decide) ?_
 refine wpAny_bind (check_bound_init F.excBase_ValueError.toExcCallFacts (k₃ _ _ (X₂ _ _ hC)) (k₃ _ _ hx₂) rfl ?_)
 refine wpAny_bind (wpAny_pure (wpAny_pure ?_))
 refine ⟨plainId_quiet F.excBase_ValueError.init.plain _, codeAny_builtin F.excBase_ValueError.initEntry ?_⟩
 refine exc_init_tree (cls := .ref C) (t0 := t0) (dv := none) (c2 := .none) (c3 := .none) (b4 := .bool false) (k₃ _ _ hx₂) (by rw [sizeLine_eq]; exact (by decide : 1 ≤ 16777216)) fun h₄ k₄ hx₄ _ => ?_
 show wpAt (model prog w) _ _ (execs (_ :: _) (ksEnv qual eS s.heap.objs.size fI (.ref cda) cc)) _ _ _
 have kk : ∀ b o, b ≠ x → s.heap.get? b = some o → h₄.get? b = some o := fun b o hb e => k₄ b o hb (k₃ b o (k₂ b o (k b o e)))
 have hLx : s.heap.objs.size ≠ x := Nat.ne_of_gt (Heap.lt_size hx)
 have hns₄ : h₄.Ns s.heap.objs.size (fun y' => ([("self", .ref x), ("line", Value.int y ty)] : List (Str × Value)).reverse.lookup y') := by
   obtain ⟨oL, es, ep, hL, r⟩ := hns₃
   exact ⟨oL, es, ep, k₄ _ _ hLx hL, r⟩
 have X₄ : K.In h₄ := fun b o e => k₄ b o (fun z => by
   rw [z, hnx] at e; cases e) (k₃ b o (X₂ _ _ e))
 refine wpAt_of_wpAny (wpAny_execs_cons (plainObj_wpAny_Assign_Attribute ?_))
 refine ldX (v := .int y ty) hns₄ rfl (ldX (v := .ref x) hns₄ rfl ?_)
 refine set_plain X₄ (ox := excO C (h₂.push (kxs_mw "ValueError.__init__" x)).objs.size) (od := none) ⟨hx₄, rfl, rfl, trivial⟩ T.sa ?_
 refine exc_osa X₄ hx₄ hcl (show refsVE (.ref C :: bm) = true from hbm) rfl T.noN (fun h₅ tk₅ dx k₅ dn dne hx₅ hn₅ => ?_)
 show wpAny _ _ (execs _ _) _ _ _
 have z : s.heap.objs.size < h₄.objs.size := hns₄.lt
 exact wpAny_execs_nil (hq h₅ tk₅ dx ⟨fun b o hb e => k₅ b o hb (kk b o hb e), ⟨_, hx₅⟩, Nat.le_of_lt (Nat.lt_of_lt_of_le z dn), dne, hn₅⟩)
structure OwnMade (h h' : Heap) (e C d : Addr) (v : Value) : Prop where
 keep : ∀ b o, h.get? b = some o → h'.get? b = some o
 new : h.objs.size ≤ e
 obj : ∃ oe vs, h'.get? e = some oe ∧ oe.cls = .ref C ∧ oe.dict = some d ∧ oe.data = .fields vs ∧ vs[1]? = some .none ∧ vs[2]? = some .none
 dbig : h.objs.size ≤ d
 dne : d ≠ e
 ns : h'.Ns1 d (fun y => if y = "line" then some v else none)
theorem err_made (T : ErrTxt prog K mg cn qual st C fI) {y : Int} {ty : Tok} (X : K.In s.heap) (hg : s.heap.Ns mainGlobals mg) (hb : s.heap.Ns builtinsNs mb) (hbs : mb "super" = bootBuiltins "super") (hbt : mb "str" = bootBuiltins "str") (hlim : s.heap.NoLimit) (hy : y.natAbs.log2 < 1920) (hroom : A.depth + 1 < recursionLimit)
   (hq : ∀ h' tk e d, OwnMade s.heap h' e C d (.int y ty) → R (.ok (.ret (.ref e))) { s with heap := h', toks := tk }) :
   codeAny (model prog w) A (.call (.ref C) ⟨[.int y ty], []⟩) R s := by
 obtain ⟨nm, q, N, bs, bm, sn, sub, ab, col, dd, k0, k1, k2, k3, k5, hC, hbm⟩ := T.cls
 obtain ⟨hp, g, dr, tk, os⟩ := s
 have k : ∀ b o, hp.get? b = some o → ((hp.push (kdv_tup [.int y ty])).push (excO C hp.objs.size)).get? b = some o := fun b o e => Heap.get?_push_of_some _ (Heap.get?_push_of_some _ e)
 have hget : ((hp.push (kdv_tup [.int y ty])).push (excO C hp.objs.size)).get? (hp.objs.size + 1) = some (excO C hp.objs.size) := by heap_get
 have hnx : K.lookup (hp.objs.size + 1) = none := by
   cases e : K.lookup (hp.objs.size + 1) with
   | none => rfl
   | some o =>
     have z : hp.get? (hp.objs.size + 1) = some o := X _ _ e
     exact absurd (Nat.lt_of_succ_lt (Heap.lt_size z)) (Nat.lt_irrefl _)
 refine call_own F.excBase_ValueError (fun X => refsVE_contains X bm hbm) (X _ _ hC) (looks_findIn X T.iC) (fun self => bind_fn X self T.tC) (one_size _) ?_
 refine err_init (s := ⟨(hp.push (kdv_tup [.int y ty])).push (excO C hp.objs.size), g, dr, tk, os⟩) T (X.keeps k) (hg.keeps k) (hb.keeps k) hbs hbt (hlim.keeps k) hget hnx hy ?_ fun h' tk' dx ⟨k', ⟨t1, hx⟩, dn, dne, hns⟩ => ?_
 · show A.depth + 1 < recursionLimit
   exact hroom
 · have old : ∀ b o, hp.get? b = some o → h'.get? b = some o := fun b o e => k' b o (Nat.ne_of_lt (Nat.lt_succ_of_lt (Heap.lt_size e))) (k b o e)
   have z : hp.objs.size + 1 + 1 ≤ dx := by
     first
       | (simpa only [Heap.size_push] using dn)
       | exact dn
       | (have q := dn; rw [Heap.size_push, Heap.size_push] at q; exact q)
   exact ⟨rfl, hq h' tk' (hp.objs.size + 1) dx ⟨old, Nat.le_succ _, ⟨_, _, hx, rfl, rfl, rfl, rfl, rfl⟩, Nat.le_trans (Nat.le_trans (Nat.le_succ _) (Nat.le_succ _)) z, dne, hns⟩⟩
end
end ErrI_line
end PySem
namespace L2
open PySem PySem.Spec PyProof.Rows
theorem relO_line {v : V} {v' : Value} (r : RelV v v') (f : Str) : RelO (List.lookup f [(("line" : Str), v)]) (if f = "line" then some v' else none) := by
 by_cases hw : f = "line"
 · subst hw
   rw [if_pos rfl]
   have q : List.lookup ("line" : Str) [(("line" : Str), v)] = some v := by simp [List.lookup]
   rw [q]
   exact r
 · rw [if_neg hw]
   have qw : (f == ("line" : Str)) = false := by simpa using hw
   have q2 : List.lookup f [(("line" : Str), v)] = none := by simp [List.lookup, qw]
   rw [q2]
   trivial
section
variable {X : Cx} {C fI : Addr} {cn qual : Str} {st : Stmt}
def tMkErr_line (C : Addr) (ta : TA) : St → Hp → XK → Prop := fun σ H Q => ta σ H fun vs H1 => ∃ y : Int, vs = [.int y] ∧ y.natAbs.log2 < 1920 ∧ ∀ d, H1 d = none → Q (.ref C) (some d) (upd H1 d (.xd [(("line" : Str), .int y)]))
theorem pmk_err_line {a : Expr} {ta : TA} {p pos : Pos} {k : Nat} (T : PySem.ErrI_line.ErrTxt X.prog X.K X.mg cn qual st C fI) (hr : Room k X.A) (ha : PA X [a] ta) (hg : Gl X cn := by rfl) (hdb : (cn == ("__debug__" : Str)) = false := by decide)
   (he : starEach (a :: []) X.env = (false, eval a X.env) :: starEach [] X.env := by rfl) (hpl : (backTo pos (starEach [] X.env)).any (·.1) = false := by rfl) :
   L2N.PMk X (.Call (.Name cn p) [a] [] pos) (tMkErr_line C ta) := by
 intro pins s σ H Q I h
 refine wpAny_Call_Name_kw (ld_glob I hg T.gC ?_ hdb)
 refine PySem.W.callWith_K (h₀ := X.base) I.ok.mod.kin T.kC (thn (ha.run pos pins s σ H _ I h) fun us s1 hh => ?_) he hpl
 obtain ⟨vs, H1, I1, r1, y, ev, hy, q1⟩ := hh
 subst ev
 refine ⟨I1.kIn, ?_⟩
 obtain ⟨v', rfl, rv⟩ := r1.one
 obtain ⟨ty, rfl⟩ := rv
 show wpAny _ _ (call (.ref C) [.int y ty]) _ _ _
 have hlim := I1.nolimit
 have hkb : ∀ b o, X.base.get? b = some o → s1.heap.get? b = some o := fun b o e => (I1.env0.bs b o e).1
 obtain ⟨mb, hbn, hbb⟩ := I1.ok.mod.blt
 obtain ⟨hp, g, dr, tk, os⟩ := s1
 refine wpAny_call (PySem.ErrI_line.err_made T I1.kIn (I1.ok.mod.glob.keeps hkb) (hbn.keeps hkb) (hbb "super" (by decide)) (hbb "str" (by decide)) hlim hy (by have := hr.dp; omega) fun h' tk' e d M => ?_)
 show L2N.MkP X pins σ Q (.ref e) ⟨h', g, dr, tk', os⟩
 obtain ⟨oe, fv, hoe, hc, hd, hdat, h1, h2⟩ := M.obj
 have hns := M.ns
 obtain ⟨G', g1, g2⟩ := restrict h' fun b => decide (b ≠ e)
 have gk : ∀ b, b ≠ e → G'.get? b = h'.get? b := fun b hb => g1 b (decide_eq_true hb)
 have ge : G'.get? e = none := g2 e (by simp)
 have old : ∀ b o, hp.get? b = some o → G'.get? b = some o := fun b o q => (gk b (Nat.ne_of_lt (Nat.lt_of_lt_of_le (Heap.lt_size q) M.new))).trans (M.keep b o q)
 have ob : ObjOk X.prog X.w (upd H1 d (.xd [(("line" : Str), .int y)])) G' d (.xd [(("line" : Str), .int y)]) :=
   ⟨_, hns.at (fun o q => (gk d M.dne).trans q), fun f => relO_line (show RelV (.int y) (.int y ty) from ⟨ty, rfl⟩) f⟩
 have J : Inv X pins σ (upd H1 d (.xd [(("line" : Str), .int y)])) ⟨G', g, dr, tk', os⟩ := I1.laid (t' := tk') old M.dbig ob
 refine ⟨e, oe, fv, ⟨G', g, dr, tk', os⟩, _, .ref C, some d, rfl, J, fun b o q => ?_, ge, hoe, ⟨hc, hd, fun vs0 e0 => by rw [hdat] at e0; obtain rfl := Data.fields.inj e0; exact h2⟩, hdat, h1, ?_, rfl, I1.bare, raises_own T.exC T.tyC, q1 d (I1.hok.fresh M.dbig)⟩
 · by_cases hb : b = e
   · have q' : G'.get? b = some o := q
     rw [hb, ge] at q'; cases q'
   · exact (gk b hb).symm.trans q
 · rw [upd_ne (Ne.symm M.dne)]
   exact I1.hok.fresh M.new
end
end L2
namespace G
open PySem PySem.Spec PyProof.Rows L2
section
variable {K : PySem.W.Frag} {σ : L2.St} {H : Hp} {Q : VK} {C : Addr} {D : Ends} {t2 : TS} {te : TE} {a dd : Addr} {fs : List (Str × V)}
theorem q_raise_line {y : Int} {s : List Nat} {W : WX} (hs : Mi.sOfI y = some s) (h : Val te σ H (.int y)) (k : ∀ d, H d = none → W (.ref C) (some d) σ (upd H d (.xd [(("line" : Str), .int y)]))) :
   tSeq (fun _ σ H => tMkErr_line C (tCons te tNil) σ H fun cls d H' => W cls d σ H') t2 D σ H :=
 h _ ⟨y, rfl, (sOfI_ok hs).1, k⟩
theorem lk_line {v : V} : List.lookup ("line" : Str) [(("line" : Str), v)] = some v := by simp [List.lookup]
theorem val_xf_line {y : Int} (h : Val te σ H (.ref a)) (hd : H dd = some (.xd [(("line" : Str), .int y)])) : Val (tXf a (.ref C) (some dd) C "line" te) σ H (.int y) := fun Q q =>
 h _ ⟨rfl, rfl, dd, _, _, rfl, hd, lk_line, q⟩
end
theorem err_of_line {P : Program} {K : PySem.W.Frag} {mg : Str → Option Value} {h : Heap} (X : K.In h) (G : h.Ns mainGlobals mg) {d : ErrD} {file : Str} (e : fnN K (d.x, some "__init__") = d.val) (c : d.ok K file = true) (g : (He.Fa.glo d.x).ok K = true) (s : (He.Fa.free "super").ok K = true) (s2 : (He.Fa.free "str").ok K = true)
   (hno : PySem.W.findIn K (.ref (He.ga K d.x)) "line" = some none)
   (top : (P.main.scope.names.lookup ("super" : Str)).isSome = false) (hf : (P.main.file : Str) = file)
   (shape : ∃ (msg : Str) (r1 r2 p0 p1 p2 p3 p4 p5 p6 p7 q1 q2 q3 q4 r5 r6 : Pos), L2.defArgs d.st = PySem.ErrI_line.eA r1 r2 ∧ L2.defBody d.st = PySem.ErrI_line.eB msg p0 p1 p2 p3 p4 p5 p6 p7 q1 q2 q3 q4 r5 r6 ∧ L2.defScope d.st = PySem.ErrI_line.eS ∧ msg.length ≤ 100 ∧
   ∀ L f cda cc : Addr, ∃ pl : Sem Bool, eval (.Call (.Attribute (.Call (.Name "super" p0) [] [] p1) "__init__" p2) [.BinOp (.Constant (.str msg) 0 p3) .Add (.Call (.Name "str" r5) [.Name "line" p4] [] r6) p5] [] p6) (PySem.W.ksEnv d.qual PySem.ErrI_line.eS L f (.ref cda) cc) = (do
     let ov ← attributeBase (.Call (.Name "super" p0) [] [] p1) "__init__" (PySem.W.ksEnv d.qual PySem.ErrI_line.eS L f (.ref cda) cc) (eval (.Call (.Name "super" p0) [] [] p1) (PySem.W.ksEnv d.qual PySem.ErrI_line.eS L f (.ref cda) cc))
     standAt p2.atName
     let (f', first) ← holding [ov] (getMethod ov "__init__" pl)
     callWith p6 f' first (backTo p6 (starEach [.BinOp (.Constant (.str msg) 0 p3) .Add (.Call (.Name "str" r5) [.Name "line" p4] [] r6) p5] (PySem.W.ksEnv d.qual PySem.ErrI_line.eS L f (.ref cda) cc))) [])) :
   PySem.ErrI_line.ErrTxt P K mg d.x d.qual d.st (He.ga K d.x) (He.fAd K (d.x, some "__init__")) ∧ ErrK K (He.ga K d.x) := by
 obtain ⟨c1, c2⟩ := He.ba c
 obtain ⟨a1, c1⟩ := He.ba c1
 obtain ⟨a2, c1⟩ := He.ba c1
 obtain ⟨a3, c1⟩ := He.ba c1
 obtain ⟨a4, c1⟩ := He.ba c1
 obtain ⟨a5, c1⟩ := He.ba c1
 obtain ⟨a6, c1⟩ := He.ba c1
 obtain ⟨a7, c1⟩ := He.ba c1
 obtain ⟨a8, c1⟩ := He.ba c1
 obtain ⟨a9, c1⟩ := He.ba c1
 obtain ⟨a10, c1⟩ := He.ba c1
 obtain ⟨a11, c1⟩ := He.ba c1
 obtain ⟨a12, c1⟩ := He.ba c1
 obtain ⟨a13, c1⟩ := He.ba c1
 obtain ⟨a14, c1⟩ := He.ba c1
 obtain ⟨a15, c1⟩ := He.ba c1
 obtain ⟨a16, c1⟩ := He.ba c1
 obtain ⟨a17, c1⟩ := He.ba c1
 obtain ⟨a18, c1⟩ := He.ba c1
 obtain ⟨a19, a20⟩ := He.ba c1
 subst hf
 obtain ⟨oc, od, doc, pm, an, cda, ct, cc, osl, ho, hcd, hcode, hcell⟩ := errF_ok e c2
 exact ⟨⟨He.glo_ok X G g, excB_ok a1, of_decide_eq_true a2, of_decide_eq_true a3, of_decide_eq_true a4, hno, of_decide_eq_true a6, of_decide_eq_true a7, a8, of_decide_eq_true a9, of_decide_eq_true a10, of_decide_eq_true a11, a12, of_decide_eq_true a13, of_decide_eq_true a14, of_decide_eq_true a15,
   He.free_ok X G s, He.free_ok X G s2, top, ⟨oc, od, doc, pm, an, cda, ct, cc, osl, ho, hcd, hcode, hcell⟩, shape⟩,
   ⟨⟨of_decide_eq_true a3, of_decide_eq_true a4, of_decide_eq_true a9, a12⟩, ⟨a16, of_decide_eq_true a3, of_decide_eq_true a4, of_decide_eq_true a9, of_decide_eq_true a17, of_decide_eq_true a18, of_decide_eq_true a19, of_decide_eq_true a20⟩, of_decide_eq_true a5, of_decide_eq_true a11⟩⟩
end G
set_option maxHeartbeats 0
namespace G
open PySem PySem.Spec PyProof.Rows L2
def topS (i : Nat) : Stmt := PySem.Challenge.pw_fogfleet_k46_parse_deeds.main.body.getD i (.Pass ⟨0, 0, 0, 0⟩)
abbrev s_read_number : Stmt := topS 26
abbrev s_read_limited : Stmt := topS 27
abbrev s_read_zone : Stmt := topS 28
abbrev s_split_words : Stmt := topS 29
abbrev s_text_lines : Stmt := topS 42
abbrev s_read_report : Stmt := topS 44
abbrev s_read_withdrawal : Stmt := topS 46
abbrev s_read_flags : Stmt := topS 47
abbrev s_read_receipt : Stmt := topS 45
abbrev s_read_deed : Stmt := topS 43
abbrev s_parse_deeds : Stmt := topS 41
abbrev s_parse_deeds_x : Stmt := topS 41
abbrev s_l_hand : Stmt := topS 49
abbrev s_l_pick : Stmt := topS 50
abbrev s_l_int : Stmt := topS 51
abbrev s_l_some : Stmt := topS 52
abbrev s_l_alike_v2 : Stmt := topS 53
abbrev s_l_alike_v5 : Stmt := topS 53
abbrev s_l_alike_v1 : Stmt := topS 53
abbrev s_l_alike_vb : Stmt := topS 53
abbrev s_l_alike_vi : Stmt := topS 53
abbrev s_l_alike_vl : Stmt := topS 53
abbrev s_l_alike : Stmt := topS 53
abbrev s_l_hour : Stmt := topS 54
abbrev s_l_zone : Stmt := topS 55
abbrev s_l_zone_word : Stmt := topS 56
abbrev s_l_deed : Stmt := topS 57
abbrev s_l_row : Stmt := topS 58
abbrev s_l_lot : Stmt := topS 59
abbrev s_l_number : Stmt := topS 60
abbrev s_l_zone_of : Stmt := topS 61
abbrev s_l_flags_of : Stmt := topS 62
abbrev s_l_slot : Stmt := topS 63
abbrev s_l_deed_of : Stmt := topS 64
abbrev s_l_reading : Stmt := topS 65
abbrev s_l_sign : Stmt := topS 66
abbrev s_l_bent : Stmt := topS 67
abbrev s_l_strange : Stmt := topS 68
abbrev s_l_changed : Stmt := topS 69
abbrev s_l_text_changed : Stmt := topS 70
abbrev s_l_asked : Stmt := topS 71
abbrev s_l_by_base : Stmt := topS 72
abbrev s_law : Stmt := topS 73
def dOf (x : Str) (i : Nat) : He.DefD := ⟨(x, none), x, x, defArgs (topS i), defBody (topS i), defScope (topS i), [], []⟩
def fnL : List He.DefD := [dOf "read_number" 26, dOf "read_limited" 27, dOf "read_zone" 28, dOf "split_words" 29, dOf "text_lines" 42, dOf "read_report" 44, dOf "read_withdrawal" 46, dOf "read_flags" 47, dOf "read_receipt" 45, dOf "read_deed" 43, dOf "parse_deeds" 41, dOf "_law_hand" 49, dOf "_law_pick" 50, dOf "_law_int" 51, dOf "_law_some" 52, dOf "_law_alike" 53, dOf "_law_hour" 54, dOf "_law_zone" 55, dOf "_law_zone_word" 56, dOf "_law_deed" 57, dOf "_law_row" 58, dOf "_law_lot" 59, dOf "_law_number" 60, dOf "_law_zone_of" 61, dOf "_law_flags_of" 62, dOf "_law_slot" 63, dOf "_law_deed_of" 64, dOf "_law_reading" 65, dOf "_law_sign" 66, dOf "_law_bent" 67, dOf "_law_strange" 68, dOf "_law_changed" 69, dOf "_law_text_changed" 70, dOf "_law_asked" 71, dOf "_law_by_base" 72, dOf "law" 73]
def faL : List He.Fa := [.glo "read_number", .glo "read_limited", .glo "read_zone", .glo "split_words", .glo "text_lines", .glo "read_report", .glo "read_withdrawal", .glo "read_flags", .glo "read_receipt", .glo "read_deed", .glo "parse_deeds", .glo "_law_hand", .glo "_law_pick", .glo "_law_int", .glo "_law_some", .glo "_law_alike", .glo "_law_hour", .glo "_law_zone", .glo "_law_zone_word", .glo "_law_deed", .glo "_law_row", .glo "_law_lot", .glo "_law_number", .glo "_law_zone_of", .glo "_law_flags_of", .glo "_law_slot", .glo "_law_deed_of", .glo "_law_reading", .glo "_law_sign", .glo "_law_bent", .glo "_law_strange", .glo "_law_changed", .glo "_law_text_changed", .glo "_law_asked", .glo "_law_by_base", .glo "law", .free "len", .free "range", .free "int", .free "bool", .free "isinstance", .free "max", .free "min", .free "list", .free "tuple", .free "sorted", .free "set", .free "enumerate", .free "zip", .free "reversed", .free "sum", .free "any", .free "all", .free "str", .str "DIGITS" "0123456789", .int "FIGURES" 3, .int "LAST_ENTRY" 999, .int "LAST_EVENT" 6, .int "LAST_HOUR" 999, .int "LAST_LETTER" 5, .int "LAST_SHIP" 3, .int "MOST_FLAGS" 4, .int "MOST_WEIGHT" 99, .free "super", .glo "BadText", .glo "FleetError", .glo "InvalidSetting", .glo "InvalidLetter", .glo "InvalidReport", .glo "InvalidLight", .glo "InvalidShip", .glo "InvalidChart", .glo "NoRun", .glo "DoesNotFit", .glo "NoSuchNumber", .glo "NoDriving", .glo "NotInPlay", .glo "InvalidReceipt", .glo "Contradiction", .glo "BadClaim", .glo "InvalidStay", .glo "InvalidOrder", .glo "NoWay", .glo "NoWorld", .glo "NothingToRedo", .glo "NothingToUndo", .glo "UnknownEntry", .free "ValueError", .glo "FLAG_SIGNS", .glo "SIDES"]
abbrev R : PySem.W.OpenRow := PySem.W.OpenLaw.row PySem.Challenge.rw_fogfleet_k46_parse_deeds
def aL : List Addr := (List.range 1000).reverse
def exL (K : PySem.W.Frag) : Bool := decide (PySem.W.findIn K (.ref (He.ga K "BadText")) "line" = some none) && decide (PySem.W.exmOne K (.ref (He.ga K "BadText")) (.ref (He.ga K "BadText")) = some true) && decide (PySem.W.exmOne K (.ref (He.ga K "BadText")) (.ref (He.ga K "FleetError")) = some true) && decide (PySem.W.kitAny K (.ref (He.ga K "BadText")) [(.ref (He.ga K "InvalidChart")), (.ref (He.ga K "InvalidShip")), (.ref (He.ga K "InvalidLight")), (.ref (He.ga K "InvalidReport")), (.ref (He.ga K "InvalidLetter")), (.ref (He.ga K "InvalidSetting"))] = some false) && decide (PySem.W.kitAny K (.ref (He.ga K "BadText")) [(.ref (He.ga K "InvalidReceipt")), (.ref (He.ga K "NotInPlay")), (.ref (He.ga K "NoDriving")), (.ref (He.ga K "NoSuchNumber")), (.ref (He.ga K "DoesNotFit")), (.ref (He.ga K "NoRun"))] = some false) && decide (PySem.W.kitAny K (.ref (He.ga K "BadText")) [(.ref (He.ga K "NoWorld")), (.ref (He.ga K "NoWay")), (.ref (He.ga K "InvalidOrder")), (.ref (He.ga K "InvalidStay")), (.ref (He.ga K "BadClaim")), (.ref (He.ga K "Contradiction"))] = some false) && decide (PySem.W.kitAny K (.ref (He.ga K "BadText")) [(.ref (He.ga K "UnknownEntry")), (.ref (He.ga K "NothingToUndo")), (.ref (He.ga K "NothingToRedo"))] = some false) && decide (PySem.W.kitOne K (.ref (He.ga K "BadText")) (.type "ValueError") = some true) && decide (PySem.W.kitOne K (.ref (He.ga K "BadText")) (.ref (He.ga K "BadText")) = some true) && He.valsB K (He.ga K "FLAG_SIGNS") (([(([121] : List Nat), true), (([110] : List Nat), false)] : List (List Nat × Bool)).map fun p => (toS p.1, He.Dv.bl p.2)) && He.valsB K (He.ga K "SIDES") (([(([105, 110] : List Nat), true), (([111, 117, 116] : List Nat), false)] : List (List Nat × Bool)).map fun p => (toS p.1, He.Dv.bl p.2))
def erL : List ErrD := [⟨"BadText", "BadText.__init__", inClass (topS 16) 0⟩]
def fileS : Str := R.prog.main.file
def tsL : List He.Tab := [(fun K => He.ga K "FLAG_SIGNS", ([(([121] : List Nat), true), (([110] : List Nat), false)] : List (List Nat × Bool)).map fun p => toS p.1), (fun K => He.ga K "SIDES", ([(([105, 110] : List Nat), true), (([111, 117, 116] : List Nat), false)] : List (List Nat × Bool)).map fun p => toS p.1)]
noncomputable abbrev hk : PySem.W.Hook := hookXTL aL faL fnL tsL exL fileS erL
noncomputable def ob (s : PySem.W.SharedT) : AlXT := obsXTGL aL faL fnL tsL exL fileS erL (HandSHeadRun.getT s)
theorem ob_eq (s : PySem.W.SharedT) : ob s = hk.obs s.abs := obsXTGL_eq (HandSHeadRun.getT_eq s)
def looseL : List Str := (["FleetError", "InvalidChart", "InvalidShip", "InvalidLight", "InvalidReport", "InvalidLetter", "InvalidSetting", "InvalidReceipt", "NotInPlay", "NoDriving", "NoSuchNumber", "DoesNotFit", "NoWay", "InvalidOrder", "InvalidStay", "BadText", "BadClaim", "UnknownEntry", "NoRun", "NoWorld"] : List Str) ++ (["Contradiction", "NothingToUndo", "NothingToRedo", "DIGITS", "read_number", "read_limited", "read_zone", "split_words", "LAST_SHIP", "LAST_HOUR", "MOST_WEIGHT", "LAST_LETTER", "LAST_EVENT", "LAST_ENTRY", "MOST_FLAGS", "FIGURES", "SIDES", "FLAG_SIGNS", "parse_deeds", "text_lines"] : List Str) ++ (["read_deed", "read_report", "read_receipt", "read_withdrawal", "read_flags", "_law_hand", "_law_pick", "_law_int", "_law_some", "_law_alike", "_law_hour", "_law_zone", "_law_zone_word", "_law_deed", "_law_row", "_law_lot", "_law_number", "_law_zone_of", "_law_flags_of", "_law_slot"] : List Str) ++ (["_law_deed_of", "_law_reading", "_law_sign", "_law_bent", "_law_strange", "_law_changed", "_law_text_changed", "_law_asked", "_law_by_base"] : List Str)
theorem run_false (w : World) : HandSHeadRun.RunEq R (PySem.W.view R.prog [73]) hk ob 40000 looseL (w.withFollow "special-get-raises" false) := by
 intro os
 kernel_rfl
theorem run_true (w : World) : HandSHeadRun.RunEq R (PySem.W.view R.prog [73]) hk ob 40000 looseL (w.withFollow "special-get-raises" true) := by
 intro os
 kernel_rfl
theorem run (w : World) : HandSHeadRun.RunEq R (PySem.W.view R.prog [73]) hk ob 40000 looseL w := by
 rw [← World.withFollow_self w "special-get-raises"]
 generalize w.params.followText "special-get-raises" = b
 cases b
 · exact run_false w
 · exact run_true w
theorem law_of (h : (PySem.W.OpenLaw.row PySem.Challenge.rw_fogfleet_k46_parse_deeds).wellSaid = true → (PySem.W.OpenLaw.row PySem.Challenge.rw_fogfleet_k46_parse_deeds).Holds) : PySem.Challenge.rw_fogfleet_k46_parse_deeds.Holds := by
  o_law
  exact h (by assumption)
theorem bare_ : (PySem.W.OpenLaw.row PySem.Challenge.rw_fogfleet_k46_parse_deeds).prog.bare := ⟨rfl, rfl, rfl, rfl, rfl, by decide +kernel⟩
end G
set_option maxHeartbeats 4000000
namespace G
open PySem PySem.Spec PyProof.Rows L2
structure Cs (w : World) (K : PySem.W.Frag) (mg : Str → Option Value) : Prop where
 c_DIGITS : ∃ t, mg "DIGITS" = some (.str "0123456789" t)
 c_FIGURES : ∃ t, mg "FIGURES" = some (.int 3 t)
 c_LAST_ENTRY : ∃ t, mg "LAST_ENTRY" = some (.int 999 t)
 c_LAST_EVENT : ∃ t, mg "LAST_EVENT" = some (.int 6 t)
 c_LAST_HOUR : ∃ t, mg "LAST_HOUR" = some (.int 999 t)
 c_LAST_LETTER : ∃ t, mg "LAST_LETTER" = some (.int 5 t)
 c_LAST_SHIP : ∃ t, mg "LAST_SHIP" = some (.int 3 t)
 c_MOST_FLAGS : ∃ t, mg "MOST_FLAGS" = some (.int 4 t)
 c_MOST_WEIGHT : ∃ t, mg "MOST_WEIGHT" = some (.int 99 t)
 np_BadText : PySem.W.findIn K (.ref (He.ga K "BadText")) "line" = some none
 g_BadText : mg "BadText" = some (.ref (He.ga K "BadText"))
 em_BadText_BadText : PySem.W.exmOne K (.ref (He.ga K "BadText")) (.ref (He.ga K "BadText")) = some true
 x_BadText : ErrK K (He.ga K "BadText")
 g_FleetError : mg "FleetError" = some (.ref (He.ga K "FleetError"))
 em_BadText_FleetError : PySem.W.exmOne K (.ref (He.ga K "BadText")) (.ref (He.ga K "FleetError")) = some true
 kt_BadText_InvalidChart_6 : PySem.W.kitAny K (.ref (He.ga K "BadText")) [(.ref (He.ga K "InvalidChart")), (.ref (He.ga K "InvalidShip")), (.ref (He.ga K "InvalidLight")), (.ref (He.ga K "InvalidReport")), (.ref (He.ga K "InvalidLetter")), (.ref (He.ga K "InvalidSetting"))] = some false
 g_InvalidSetting : mg "InvalidSetting" = some (.ref (He.ga K "InvalidSetting"))
 g_InvalidLetter : mg "InvalidLetter" = some (.ref (He.ga K "InvalidLetter"))
 g_InvalidReport : mg "InvalidReport" = some (.ref (He.ga K "InvalidReport"))
 g_InvalidLight : mg "InvalidLight" = some (.ref (He.ga K "InvalidLight"))
 g_InvalidShip : mg "InvalidShip" = some (.ref (He.ga K "InvalidShip"))
 g_InvalidChart : mg "InvalidChart" = some (.ref (He.ga K "InvalidChart"))
 kt_BadText_InvalidReceipt_6 : PySem.W.kitAny K (.ref (He.ga K "BadText")) [(.ref (He.ga K "InvalidReceipt")), (.ref (He.ga K "NotInPlay")), (.ref (He.ga K "NoDriving")), (.ref (He.ga K "NoSuchNumber")), (.ref (He.ga K "DoesNotFit")), (.ref (He.ga K "NoRun"))] = some false
 g_NoRun : mg "NoRun" = some (.ref (He.ga K "NoRun"))
 g_DoesNotFit : mg "DoesNotFit" = some (.ref (He.ga K "DoesNotFit"))
 g_NoSuchNumber : mg "NoSuchNumber" = some (.ref (He.ga K "NoSuchNumber"))
 g_NoDriving : mg "NoDriving" = some (.ref (He.ga K "NoDriving"))
 g_NotInPlay : mg "NotInPlay" = some (.ref (He.ga K "NotInPlay"))
 g_InvalidReceipt : mg "InvalidReceipt" = some (.ref (He.ga K "InvalidReceipt"))
 kt_BadText_NoWorld_6 : PySem.W.kitAny K (.ref (He.ga K "BadText")) [(.ref (He.ga K "NoWorld")), (.ref (He.ga K "NoWay")), (.ref (He.ga K "InvalidOrder")), (.ref (He.ga K "InvalidStay")), (.ref (He.ga K "BadClaim")), (.ref (He.ga K "Contradiction"))] = some false
 g_Contradiction : mg "Contradiction" = some (.ref (He.ga K "Contradiction"))
 g_BadClaim : mg "BadClaim" = some (.ref (He.ga K "BadClaim"))
 g_InvalidStay : mg "InvalidStay" = some (.ref (He.ga K "InvalidStay"))
 g_InvalidOrder : mg "InvalidOrder" = some (.ref (He.ga K "InvalidOrder"))
 g_NoWay : mg "NoWay" = some (.ref (He.ga K "NoWay"))
 g_NoWorld : mg "NoWorld" = some (.ref (He.ga K "NoWorld"))
 kt_BadText_UnknownEntry_3 : PySem.W.kitAny K (.ref (He.ga K "BadText")) [(.ref (He.ga K "UnknownEntry")), (.ref (He.ga K "NothingToUndo")), (.ref (He.ga K "NothingToRedo"))] = some false
 g_NothingToRedo : mg "NothingToRedo" = some (.ref (He.ga K "NothingToRedo"))
 g_NothingToUndo : mg "NothingToUndo" = some (.ref (He.ga K "NothingToUndo"))
 g_UnknownEntry : mg "UnknownEntry" = some (.ref (He.ga K "UnknownEntry"))
 ko_BadText_ValueError : PySem.W.kitOne K (.ref (He.ga K "BadText")) (.type "ValueError") = some true
 n_ValueError : mg "ValueError" = none
 ko_BadText_BadText : PySem.W.kitOne K (.ref (He.ga K "BadText")) (.ref (He.ga K "BadText")) = some true
 kd_FLAG_SIGNS : ∃ a, mg "FLAG_SIGNS" = some (.ref a) ∧ KdB K w a ([(([121] : List Nat), true), (([110] : List Nat), false)] : List (List Nat × Bool))
 kd_SIDES : ∃ a, mg "SIDES" = some (.ref a) ∧ KdB K w a ([(([105, 110] : List Nat), true), (([111, 117, 116] : List Nat), false)] : List (List Nat × Bool))
section
variable {P : Program} {w : World} {K : PySem.W.Frag} {mg : Str → Option Value}
theorem sc_read_number : FnScope ["text", "figures", "sign"] ["text", "figures"] (defScope s_read_number) := ⟨rfl, rfl, rfl, by decide +kernel, rfl, by decide +kernel, by decide +kernel⟩
def sp_read_number (K : PySem.W.Frag) : Sp := fun vs H Q _ => ∃ (d0 : (List Nat)) (d1 : Int) (r : (Option Int)), vs = [(.str (toS d0)), (.int d1)] ∧ Mi.m_read_number d0 d1 = some r ∧ ∀ v H', Chg ([]) H H' → (yOpt yInt).rep K H' [] v r → Q v H'
theorem ok_read_number (B : Bi mg) (CN : Cs w K mg) (D : Dfn K mg "read_number" s_read_number)  : Cal P w K mg "read_number" ["text", "figures"] 1 (sp_read_number K) := by
 obtain ⟨f, fd, F, g⟩ := D.ex
 refine ⟨f, fd, g, F.kp, bindsF F (fun _ _ _ _ _ _ us hl => match us, hl with | [_, _], _ => rfl), fun base => F.ok sc_read_number (fun vs H Q E h => ?_) (fun cdv A outer s H0 vs Q E hr h => ?_)⟩
 · obtain ⟨d0, d1, r, rfl, hm, hQ⟩ := h; rfl
 ·
   obtain ⟨d0, d1, r, rfl, hm, hQ⟩ := h
   refine ⟨_, pss_cons (ps_if (PW.pt (pw_or (pt_cmpR op_eq (pv 0) pe_str (nomark _)) (pw_or1 (pt_cmpR op_gt (pe_callB cl_lenTx (by rfl) B.len PySem.boot_len (pa_cons (pv 0) pa_nil)) (pv 1) (nomark _))))) (pss_cons (ps_ret pe_non) pss_nil) (pss_nil))
     (pss_cons (ps_for PassesOwn.never rfl (pi_str (pv 0)) (pg_name (i := 2) sc_read_number.nd rfl (.inl rfl)) (pss_cons (ps_if (pt_cmpR op_ni_c (pv 2) (pe_glob (v := .str "0123456789") (by rfl) CN.c_DIGITS.choose_spec ⟨_, rfl⟩) (by rfl)) (pss_cons (ps_ret pe_non) pss_nil) (pss_nil))
     (pss_nil)))
     (pss_cons (ps_if (PW.pt (pw_and (pt_cmpR op_gt (pe_callB cl_lenTx (by rfl) B.len PySem.boot_len (pa_cons (pv 0) pa_nil)) pe_int (nomark _)) (pw_and1 (pt_cmpR op_eq (pe_ix ix_str (pv 0) pe_int (fun _ _ => rfl)) pe_str (nomark _))))) (pss_cons (ps_ret pe_non) pss_nil) (pss_nil))
     (pss_cons (ps_ret (pe_callTy cl_intS (by rfl) B.int (by decide +kernel) (pa_cons (pv 0) pa_nil))) pss_nil))), ?_⟩
   have c0 : Chg ([] : List Addr) H0 H0 := Chg.refl H0
   unfold Mi.m_read_number at hm
   obtain ⟨b5, hb5, hm⟩ := Mi.bnd hm
   refine q_if (ans_orO (ans_t (val_eqS (val_var rfl) (val_cS (a := ([] : List Nat)) (by decide +kernel)))) hb5 (fun hs3 => by (obtain ⟨x4, hx4, hs3⟩ := Mi.bnd hs3; cases hs3; exact (ans_t (val_gt (val_lenTx hx4 (val_var rfl)) (val_var rfl)))))) (fun hb => ?_) (fun hb => ?_)
   ·
     replace hm := Mi.ifT hb hm
     refine q_ret ?_
     refine c_val val_c ?_
     obtain rfl := Option.some.inj hm
     exact hQ _ _ c0 opt_n 
   replace hm := Mi.ifF hb hm
   refine w_fall ?_
   refine q_for ?_
   refine w_iStr ?_
   refine c_val (val_var rfl) ?_
   obtain ⟨e6, he6, hm⟩ := Mi.bnd hm
   refine l_str (a := d0) (fun i σ' H' => ∃ (s7 : Unit) (y8 : Option V), σ' = [some (.str (toS d0)), some (.int d1), y8] ∧ Chg ([] : List Addr) H0 H' ∧ Mi.forR (Mi.m_read_number_b1) s7 (List.drop i (Mi.signs d0)) = some e6) ⟨(), none, rfl, c0, he6⟩ (fun i11 x10 σ' H' hx9 hp => ?_) (fun σ' H' hp => ?_)
   ·
     obtain ⟨s7, y8, rfl, c0, hle6⟩ := hp
     obtain ⟨o12, hbe6, hore6⟩ := Mi.forR_go hle6 hx9
     unfold Mi.m_read_number_b1 at hbe6
     refine g_name (σ' := [some (.str (toS d0)), some (.int d1), some (.str (toS x10))]) rfl ?_
     obtain ⟨b13, hb13, hbe6⟩ := Mi.bnd hbe6
     refine q_if (ans_t (val_niC hb13 (val_var rfl) (val_cS (a := ([48, 49, 50, 51, 52, 53, 54, 55, 56, 57] : List Nat)) (by decide +kernel)))) (fun hb => ?_) (fun hb => ?_)
     ·
       replace hbe6 := Mi.ifT hb hbe6
       refine q_ret ?_
       refine c_val val_c ?_
       obtain rfl := Option.some.inj hbe6
       obtain rfl := Mi.or_inl hore6
       obtain rfl := Option.some.inj (Mi.orR_inl hm)
       exact hQ _ _ c0 opt_n 
     replace hbe6 := Mi.ifF hb hbe6
     refine w_fall ?_
     refine w_nextJ ?_
     obtain rfl := Option.some.inj hbe6
     replace hore6 := Mi.or_inr hore6
     exact ⟨_, (some (.str (toS x10))), rfl, c0, hore6⟩
   obtain ⟨s7, y8, rfl, c0, hle6⟩ := hp
   obtain rfl := Mi.forR_end hle6
   replace hm := Mi.orR_inr hm
   obtain ⟨x14, hx14, hm⟩ := Mi.bnd hm
   obtain ⟨b17, hb17, hm⟩ := Mi.bnd hm
   refine q_if (ans_andO (ans_t (val_gt (val_lenTx hx14 (val_var rfl)) val_c)) hb17 (fun hs15 => by (obtain ⟨x16, hx16, hs15⟩ := Mi.bnd hs15; cases hs15; exact (ans_t (val_eqS (val_ixS hx16 (val_var rfl) val_c) (val_cS (a := ([48] : List Nat)) (by decide +kernel))))))) (fun hb => ?_) (fun hb => ?_)
   ·
     replace hm := Mi.ifT hb hm
     refine q_ret ?_
     refine c_val val_c ?_
     obtain rfl := Option.some.inj hm
     exact hQ _ _ c0 opt_n 
   replace hm := Mi.ifF hb hm
   refine w_fall ?_
   refine q_ret ?_
   obtain ⟨x18, hx18, hm⟩ := Mi.bnd hm
   refine c_val (val_intN hx18 (val_var rfl)) ?_
   obtain rfl := Option.some.inj hm
   exact hQ _ _ c0 (opt_i nn_int yInt_i) 
theorem sc_read_limited : FnScope ["text", "figures", "most", "number"] ["text", "figures", "most"] (defScope s_read_limited) := ⟨rfl, rfl, rfl, by decide +kernel, rfl, by decide +kernel, by decide +kernel⟩
def sp_read_limited (K : PySem.W.Frag) : Sp := fun vs H Q _ => ∃ (d0 : (List Nat)) (d1 : Int) (d2 : Int) (r : (Option Int)), vs = [(.str (toS d0)), (.int d1), (.int d2)] ∧ Mi.m_read_limited d0 d1 d2 = some r ∧ ∀ v H', Chg ([]) H H' → (yOpt yInt).rep K H' [] v r → Q v H'
theorem ok_read_limited (B : Bi mg) (CN : Cs w K mg) (D : Dfn K mg "read_limited" s_read_limited) (C_read_number : Cal P w K mg "read_number" ["text", "figures"] 1 (sp_read_number K)) : Cal P w K mg "read_limited" ["text", "figures", "most"] 2 (sp_read_limited K) := by
 obtain ⟨f, fd, F, g⟩ := D.ex
 refine ⟨f, fd, g, F.kp, bindsF F (fun _ _ _ _ _ _ us hl => match us, hl with | [_, _, _], _ => rfl), fun base => F.ok sc_read_limited (fun vs H Q E h => ?_) (fun cdv A outer s H0 vs Q E hr h => ?_)⟩
 · obtain ⟨d0, d1, d2, r, rfl, hm, hQ⟩ := h; rfl
 ·
   obtain ⟨d0, d1, d2, r, rfl, hm, hQ⟩ := h
   refine ⟨_, pss_cons (ps_set (i := 3) sc_read_limited.nd rfl (.inl rfl) (pe_cc C_read_number hr (pa_cons (pv 0) (pa_cons (pv 1) pa_nil))))
     (pss_cons (ps_if (PW.pt (pw_or (pt_cmpR op_isN1 (pv 3) pe_non (nomark _)) (pw_or1 (pt_cmpR op_gt (pv 3) (pv 2) (nomark _))))) (pss_cons (ps_ret pe_non) pss_nil) (pss_nil))
     (pss_cons (ps_ret (pv 3)) pss_nil)), ?_⟩
   have c0 : Chg ([] : List Addr) H0 H0 := Chg.refl H0
   unfold Mi.m_read_limited at hm
   refine q_asg ?_
   refine w_call ?_
   refine w_args (va_cons (val_var rfl) (va_cons (val_var rfl) va_nil)) ?_
   obtain ⟨q4, hq4, hm⟩ := Mi.bnd hm
   refine ⟨d0, d1, q4, rfl, hq4, fun v7 H6 c5 r8  => ?_⟩
   have c0 := c0.trans c5.none
   refine g_name (σ' := [some (.str (toS d0)), some (.int d1), some (.int d2), some v7]) rfl ?_
   obtain ⟨b11, hb11, hm⟩ := Mi.bnd hm
   refine q_if (ans_orO (ans_t (val_isN r8 (val_var rfl))) hb11 (fun hs9 => by (obtain ⟨x10, hx10, hs9⟩ := Mi.bnd hs9; obtain ⟨_, rfl⟩ := opt_int r8 hx10; cases hs9; exact (ans_t (val_gt (val_var rfl) (val_var rfl)))))) (fun hb => ?_) (fun hb => ?_)
   ·
     replace hm := Mi.ifT hb hm
     refine q_ret ?_
     refine c_val val_c ?_
     obtain rfl := Option.some.inj hm
     exact hQ _ _ c0 opt_n 
   replace hm := Mi.ifF hb hm
   refine w_fall ?_
   refine q_ret ?_
   refine c_val (val_var rfl) ?_
   obtain rfl := Option.some.inj hm
   exact hQ _ _ c0 r8 
theorem sc_read_zone : FnScope ["text", "places", "word", "place"] ["text"] (defScope s_read_zone) := ⟨rfl, rfl, rfl, by decide +kernel, rfl, by decide +kernel, by decide +kernel⟩
def sp_read_zone (K : PySem.W.Frag) : Sp := fun vs H Q _ => ∃ (d0 : (List Nat)) (r : (Option (List Int))), vs = [(.str (toS d0))] ∧ Mi.m_read_zone d0 = some r ∧ ∀ v H', Chg ([]) H H' → (yOpt (yTupL yInt)).rep K H' [] v r → Q v H'
theorem ok_read_zone (B : Bi mg) (CN : Cs w K mg) (D : Dfn K mg "read_zone" s_read_zone) (C_read_limited : Cal P w K mg "read_limited" ["text", "figures", "most"] 2 (sp_read_limited K)) : Cal P w K mg "read_zone" ["text"] 3 (sp_read_zone K) := by
 obtain ⟨f, fd, F, g⟩ := D.ex
 refine ⟨f, fd, g, F.kp, bindsF F (fun _ _ _ _ _ _ us hl => match us, hl with | [_], _ => rfl), fun base => F.ok sc_read_zone (fun vs H Q E h => ?_) (fun cdv A outer s H0 vs Q E hr h => ?_)⟩
 · obtain ⟨d0, r, rfl, hm, hQ⟩ := h; rfl
 ·
   obtain ⟨d0, r, rfl, hm, hQ⟩ := h
   refine ⟨_, pss_cons (ps_if (pt_cmpR op_eq (pv 0) pe_str (nomark _)) (pss_cons (ps_ret (pe_tup pa_nil)) pss_nil) (pss_nil))
     (pss_cons (ps_set (i := 1) sc_read_zone.nd rfl (.inl rfl) (pe_lst pa_nil))
     (pss_cons (ps_for PassesOwn.never rfl (pi_list (pe_spl (pv 0) pe_str)) (pg_name (i := 2) sc_read_zone.nd rfl (.inl rfl)) (pss_cons (ps_set (i := 3) sc_read_zone.nd rfl (.inl rfl) (pe_cc C_read_limited hr (pa_cons (pv 2) (pa_cons pe_int (pa_cons pe_int pa_nil)))))
     (pss_cons (ps_if (PW.pt (pw_or (pt_cmpR op_isN1 (pv 3) pe_non (nomark _)) (pw_or1 (PW.pt (pw_and (pt_truK (K := K) (pv 1)) (pw_and1 (pt_cmpR op_le (pv 3) (pe_ix (ix_l (K := K)) (pv 1) (pe_un un_neg pe_int) (fun _ _ => rfl)) (nomark _)))))))) (pss_cons (ps_ret pe_non) pss_nil) (pss_nil))
     (pss_cons (ps_expr (pe_bm PySem.F.plainAttrs_list PySem.F.slot_list_append PySem.F.type_list_append mt_append (pv 1) (pa_cons (pv 3) pa_nil)))
     (pss_nil)))))
     (pss_cons (ps_ret (pe_callTy (cl_tuple (K := K)) (by rfl) B.tuple (by decide +kernel) (pa_cons (pv 1) pa_nil))) pss_nil))), ?_⟩
   have c0 : Chg ([] : List Addr) H0 H0 := Chg.refl H0
   unfold Mi.m_read_zone at hm
   refine q_if (ans_t (val_eqS (val_var rfl) (val_cS (a := ([45] : List Nat)) (by decide +kernel)))) (fun hb => ?_) (fun hb => ?_)
   ·
     replace hm := Mi.ifT hb hm
     refine q_ret ?_
     refine w_tup ?_
     refine w_args va_nil ?_
     refine e_tupl (K := K) (τ := yInt) (xs := ([] : (List Int))) (by exact Nat.le_of_ble_eq_true rfl) .nil fun p2 H6 np5 c3 r4 => ?_
     have c0 := c0.trans c3.none
     obtain rfl := Option.some.inj hm
     exact hQ _ _ c0 (opt_i (nn_tupl r4) r4) 
   replace hm := Mi.ifF hb hm
   refine w_fall ?_
   refine q_asg ?_
   refine w_lst ?_
   refine w_args va_nil ?_
   refine e_lst (K := K) (τ := yInt) (by exact Nat.le_of_ble_eq_true rfl) .nil fun p7 H11 np10 c8 r9 => ?_
   have n12 : ∀ a ∈ [p7], H0 a = none := one_fresh (c0.dom p7 np10)
   have c0 := c0.trans c8.none
   refine g_name (σ' := [some (.str (toS d0)), some (.ref p7), none, none]) rfl ?_
   refine q_for ?_
   refine w_iList ?_
   refine w_m1 ?_
   refine c_val (val_var rfl) ?_
   refine ⟨⟨_, rfl⟩, ?_⟩
   refine c_val (val_cS (a := ([44] : List Nat)) (by decide +kernel)) ?_
   obtain ⟨x13, hx13, hm⟩ := Mi.bnd hm
   refine w_spl (K := K) hx13 fun p14 H18 np17 c15 r16 => ?_
   have d19 : Dj [p7] [p14] := Ty.nin r9 np17
   have n20 : ∀ a ∈ [p14], H0 a = none := one_fresh (c0.dom p14 np17)
   have r9 := Ty.ex r9 c15
   have c0 := c0.trans c15.none
   obtain ⟨e21, he21, hm⟩ := Mi.bnd hm
   refine l_lst r16 (fun i σ' H' => ∃ (s22 : (List Int)) (y23 : Option V) (y24 : Option V), σ' = [some (.str (toS d0)), some (.ref p7), y23, y24] ∧ Chg ([] : List Addr) H0 H' ∧ (yLst yInt).rep K H' [p7] (.ref p7) s22 ∧ (yLst yStr).rep K H' [p14] (.ref p14) x13 ∧ Mi.forR (Mi.m_read_zone_b1) s22 (List.drop i x13) = some e21) ⟨([] : (List Int)), none, none, rfl, c0, r9, r16, he21⟩ (fun i σ' H' hp => by obtain ⟨s22, y23, y24, rfl, c0, r9, r16, _⟩ := hp; exact r16) (fun i27 x26 u28 σ' H' hx25 r29 hp => ?_) (fun σ' H' hp => ?_)
   ·
     obtain ⟨s22, y23, y24, rfl, c0, r9, r16, hle21⟩ := hp
     obtain ⟨o30, hbe21, hore21⟩ := Mi.forR_go hle21 hx25
     unfold Mi.m_read_zone_b1 at hbe21
     obtain ⟨_, rfl⟩ := r29
     refine g_name (σ' := [some (.str (toS d0)), some (.ref p7), some (.str (toS x26)), y24]) rfl ?_
     refine q_asg ?_
     refine w_call ?_
     refine w_args (va_cons (val_var rfl) (va_cons val_c (va_cons val_c va_nil))) ?_
     obtain ⟨q31, hq31, hbe21⟩ := Mi.bnd hbe21
     refine ⟨x26, (2 : Int), (11 : Int), q31, rfl, hq31, fun v34 H33 c32 r35  => ?_⟩
     have r9 := Ty.ex r9 c32
     have r16 := Ty.ex r16 c32
     have c0 := c0.trans c32.none
     refine g_name (σ' := [some (.str (toS d0)), some (.ref p7), some (.str (toS x26)), some v34]) rfl ?_
     obtain ⟨b41, hb41, hbe21⟩ := Mi.bnd hbe21
     refine q_if (ans_orO (ans_t (val_isN r35 (val_var rfl))) hb41 (fun hs36 => by (obtain ⟨b40, hb40, hs36⟩ := Mi.bnd hs36; cases hs36; exact (ans_andO (ans_truL r9 (val_var rfl)) hb40 (fun hs37 => by (obtain ⟨x38, hx38, hs37⟩ := Mi.bnd hs37; obtain ⟨x39, hx39, hs37⟩ := Mi.bnd hs37; obtain ⟨_, rfl⟩ := opt_int r35 hx39; cases hs37; exact (ans_t (val_le (val_var rfl) (itm_LI r9 hx38 (val_var rfl) (val_neg val_c)))))))))) (fun hb => ?_) (fun hb => ?_)
     ·
       replace hbe21 := Mi.ifT hb hbe21
       refine q_ret ?_
       refine c_val val_c ?_
       obtain rfl := Option.some.inj hbe21
       obtain rfl := Mi.or_inl hore21
       obtain rfl := Option.some.inj (Mi.orR_inl hm)
       exact hQ _ _ c0 opt_n 
     replace hbe21 := Mi.ifF hb hbe21
     refine w_fall ?_
     refine q_drop (w_bm (c_val (val_var rfl) ⟨tyv_lst r9, ?_⟩))
     refine w_args (va_cons (val_var rfl) va_nil) ?_
     obtain ⟨x42, hx42, hbe21⟩ := Mi.bnd hbe21
     obtain ⟨_, rfl⟩ := opt_int r35 hx42
     obtain ⟨x43, hx43, hbe21⟩ := Mi.bnd hbe21
     refine m_app r9 yInt_i hx43 fun H45 c44 r9 => ?_
     have r16 := Ty.chg r16 c44 d19.symm
     have c0 := c0.join c44 (fun a h => .inr (n12 a h))
     refine w_nextJ ?_
     obtain rfl := Option.some.inj hbe21
     replace hore21 := Mi.or_inr hore21
     exact ⟨_, (some (.str (toS x26))), (some (.int x42)), rfl, c0, r9, r16, hore21⟩
   obtain ⟨s22, y23, y24, rfl, c0, r9, r16, hle21⟩ := hp
   obtain rfl := Mi.forR_end hle21
   replace hm := Mi.orR_inr hm
   refine q_ret ?_
   refine w_cb ?_
   refine w_args (va_cons (val_var rfl) va_nil) ?_
   refine w_tupleL r9 fun v46 H47 c48 r49 => ?_
   have r9 := Ty.ex r9 c48
   have c0 := c0.trans c48.none
   obtain rfl := Option.some.inj hm
   exact hQ _ _ c0 (opt_i (nn_tupl r49) r49) 
theorem sc_split_words : FnScope ["line"] ["line"] (defScope s_split_words) := ⟨rfl, rfl, rfl, by decide +kernel, rfl, by decide +kernel, by decide +kernel⟩
def sp_split_words (K : PySem.W.Frag) : Sp := fun vs H Q _ => ∃ (d0 : (List Nat)) (r : (List (List Nat))), vs = [(.str (toS d0))] ∧ Mi.m_split_words d0 = some r ∧ ∀ v H' F, Chg ([]) H H' → (yLst yStr).rep K H' F v r → (∀ a ∈ F, H a = none) → Q v H'
theorem ok_split_words (B : Bi mg) (CN : Cs w K mg) (D : Dfn K mg "split_words" s_split_words)  : Cal P w K mg "split_words" ["line"] 1 (sp_split_words K) := by
 obtain ⟨f, fd, F, g⟩ := D.ex
 refine ⟨f, fd, g, F.kp, bindsF F (fun _ _ _ _ _ _ us hl => match us, hl with | [_], _ => rfl), fun base => F.ok sc_split_words (fun vs H Q E h => ?_) (fun cdv A outer s H0 vs Q E hr h => ?_)⟩
 · obtain ⟨d0, r, rfl, hm, hQ⟩ := h; rfl
 ·
   obtain ⟨d0, r, rfl, hm, hQ⟩ := h
   refine ⟨_, pss_cons (ps_ret (pe_spl (pv 0) pe_str)) pss_nil, ?_⟩
   have c0 : Chg ([] : List Addr) H0 H0 := Chg.refl H0
   unfold Mi.m_split_words at hm
   refine q_ret ?_
   refine w_m1 ?_
   refine c_val (val_var rfl) ?_
   refine ⟨⟨_, rfl⟩, ?_⟩
   refine c_val (val_cS (a := ([32] : List Nat)) (by decide +kernel)) ?_
   obtain ⟨x2, hx2, hm⟩ := Mi.bnd hm
   refine w_spl (K := K) hx2 fun p3 H7 np6 c4 r5 => ?_
   have n8 : ∀ a ∈ [p3], H0 a = none := one_fresh (c0.dom p3 np6)
   have c0 := c0.trans c4.none
   obtain rfl := Option.some.inj hm
   exact hQ _ _ _ c0 r5 n8 
theorem sc_text_lines : FnScope ["text"] ["text"] (defScope s_text_lines) := ⟨rfl, rfl, rfl, by decide +kernel, rfl, by decide +kernel, by decide +kernel⟩
def sp_text_lines (K : PySem.W.Frag) : Sp := fun vs H Q _ => ∃ (d0 : (List Nat)) (r : (List (List Nat))), vs = [(.str (toS d0))] ∧ Mi.m_text_lines d0 = some r ∧ ∀ v H' F, Chg ([]) H H' → (yLst yStr).rep K H' F v r → (∀ a ∈ F, H a = none) → Q v H'
theorem ok_text_lines (B : Bi mg) (CN : Cs w K mg) (D : Dfn K mg "text_lines" s_text_lines)  : Cal P w K mg "text_lines" ["text"] 1 (sp_text_lines K) := by
 obtain ⟨f, fd, F, g⟩ := D.ex
 refine ⟨f, fd, g, F.kp, bindsF F (fun _ _ _ _ _ _ us hl => match us, hl with | [_], _ => rfl), fun base => F.ok sc_text_lines (fun vs H Q E h => ?_) (fun cdv A outer s H0 vs Q E hr h => ?_)⟩
 · obtain ⟨d0, r, rfl, hm, hQ⟩ := h; rfl
 ·
   obtain ⟨d0, r, rfl, hm, hQ⟩ := h
   refine ⟨_, pss_cons (ps_if (pt_cmpR op_eq (pv 0) pe_str (nomark _)) (pss_cons (ps_ret (pe_lst pa_nil)) pss_nil) (pss_nil))
     (pss_cons (ps_ret (pe_spl (pv 0) pe_str)) pss_nil), ?_⟩
   have c0 : Chg ([] : List Addr) H0 H0 := Chg.refl H0
   unfold Mi.m_text_lines at hm
   refine q_if (ans_t (val_eqS (val_var rfl) (val_cS (a := ([] : List Nat)) (by decide +kernel)))) (fun hb => ?_) (fun hb => ?_)
   ·
     replace hm := Mi.ifT hb hm
     refine q_ret ?_
     refine w_lst ?_
     refine w_args va_nil ?_
     refine e_lst (K := K) (τ := yStr) (by exact Nat.le_of_ble_eq_true rfl) .nil fun p2 H6 np5 c3 r4 => ?_
     have n7 : ∀ a ∈ [p2], H0 a = none := one_fresh (c0.dom p2 np5)
     have c0 := c0.trans c3.none
     obtain rfl := Option.some.inj hm
     exact hQ _ _ _ c0 r4 n7 
   replace hm := Mi.ifF hb hm
   refine w_fall ?_
   refine q_ret ?_
   refine w_m1 ?_
   refine c_val (val_var rfl) ?_
   refine ⟨⟨_, rfl⟩, ?_⟩
   refine c_val (val_cS (a := ([10] : List Nat)) (by decide +kernel)) ?_
   obtain ⟨x8, hx8, hm⟩ := Mi.bnd hm
   refine w_spl (K := K) hx8 fun p9 H13 np12 c10 r11 => ?_
   have n14 : ∀ a ∈ [p9], H0 a = none := one_fresh (c0.dom p9 np12)
   have c0 := c0.trans c10.none
   obtain rfl := Option.some.inj hm
   exact hQ _ _ _ c0 r11 n14 
theorem sc_read_report : FnScope ["ship", "hour", "side", "zone", "weight", "places", "numbers", "worth"] ["ship", "hour", "side", "zone", "weight"] (defScope s_read_report) := ⟨rfl, rfl, rfl, by decide +kernel, rfl, by decide +kernel, by decide +kernel⟩
def sp_read_report (K : PySem.W.Frag) : Sp := fun vs H Q _ => ∃ (d0 : (List Nat)) (d1 : (List Nat)) (d2 : (List Nat)) (d3 : (List Nat)) (d4 : (List Nat)) (r : (Option (List (Int ⊕ (List Nat) ⊕ Bool ⊕ (List Int) ⊕ (List Bool))))), vs = [(.str (toS d0)), (.str (toS d1)), (.str (toS d2)), (.str (toS d3)), (.str (toS d4))] ∧ Mi.m_read_report d0 d1 d2 d3 d4 = some r ∧ ∀ v H', Chg ([]) H H' → (yOpt (yTupL (ySum yInt (ySum yStr (ySum yBool (ySum (yTupL yInt) (yTupL yBool))))))).rep K H' [] v r → Q v H'
theorem ok_read_report (B : Bi mg) (CN : Cs w K mg) (D : Dfn K mg "read_report" s_read_report) (C_read_limited : Cal P w K mg "read_limited" ["text", "figures", "most"] 2 (sp_read_limited K)) (C_read_zone : Cal P w K mg "read_zone" ["text"] 3 (sp_read_zone K)) : Cal P w K mg "read_report" ["ship", "hour", "side", "zone", "weight"] 4 (sp_read_report K) := by
 obtain ⟨f, fd, F, g⟩ := D.ex
 refine ⟨f, fd, g, F.kp, bindsF F (fun _ _ _ _ _ _ us hl => match us, hl with | [_, _, _, _, _], _ => rfl), fun base => F.ok sc_read_report (fun vs H Q E h => ?_) (fun cdv A outer s H0 vs Q E hr h => ?_)⟩
 · obtain ⟨d0, d1, d2, d3, d4, r, rfl, hm, hQ⟩ := h; rfl
 ·
   obtain ⟨d0, d1, d2, d3, d4, r, rfl, hm, hQ⟩ := h
   refine ⟨_, pss_cons (ps_set (i := 5) sc_read_report.nd rfl (.inl rfl) (pe_cc C_read_zone hr (pa_cons (pv 3) pa_nil)))
     (pss_cons (ps_set (i := 6) sc_read_report.nd rfl (.inl rfl) (pe_lst (pa_cons (pe_cc C_read_limited hr (pa_cons (pv 0) (pa_cons (pe_glob (v := .int 3) (by rfl) CN.c_FIGURES.choose_spec ⟨_, rfl⟩) (pa_cons (pe_glob (v := .int 3) (by rfl) CN.c_LAST_SHIP.choose_spec ⟨_, rfl⟩) pa_nil)))) (pa_cons (pe_cc C_read_limited hr (pa_cons (pv 1) (pa_cons (pe_glob (v := .int 3) (by rfl) CN.c_FIGURES.choose_spec ⟨_, rfl⟩) (pa_cons (pe_glob (v := .int 999) (by rfl) CN.c_LAST_HOUR.choose_spec ⟨_, rfl⟩) pa_nil)))) pa_nil))))
     (pss_cons (ps_set (i := 7) sc_read_report.nd rfl (.inl rfl) (pe_cc C_read_limited hr (pa_cons (pv 4) (pa_cons (pe_glob (v := .int 3) (by rfl) CN.c_FIGURES.choose_spec ⟨_, rfl⟩) (pa_cons (pe_glob (v := .int 99) (by rfl) CN.c_MOST_WEIGHT.choose_spec ⟨_, rfl⟩) pa_nil)))))
     (pss_cons (ps_if (PW.pt (pw_or (pt_cmpR (op_in_d (K := K) (units1 hr)) pe_non (pv 6) (by rfl)) (pw_or (pt_cmpR op_isN1 (pv 5) pe_non (nomark _)) (pw_or (pt_cmpR (op_ni_k (K := K) (w := w)) (pv 2) (pe_glob (v := .ref CN.kd_SIDES.choose) (by rfl) CN.kd_SIDES.choose_spec.1 rfl) (by rfl)) (pw_or (pt_cmpR op_isN1 (pv 7) pe_non (nomark _)) (pw_or1 (pt_cmpR op_eq (pv 7) pe_int (nomark _)))))))) (pss_cons (ps_ret pe_non) pss_nil) (pss_nil))
     (pss_cons (ps_ret (pe_tup (pa_cons pe_str (StX.pa_star (pv 6) (pa_cons (pv 5) (pa_cons (pe_ix (ix_kd (K := K) (w := w)) (pe_glob (v := .ref CN.kd_SIDES.choose) (by rfl) CN.kd_SIDES.choose_spec.1 rfl) (pv 2) (fun _ _ => rfl)) (pa_cons (pv 7) pa_nil))))))) pss_nil)))), ?_⟩
   have c0 : Chg ([] : List Addr) H0 H0 := Chg.refl H0
   unfold Mi.m_read_report at hm
   refine q_asg ?_
   refine w_call ?_
   refine w_args (va_cons (val_var rfl) va_nil) ?_
   obtain ⟨q6, hq6, hm⟩ := Mi.bnd hm
   refine ⟨d3, q6, rfl, hq6, fun v9 H8 c7 r10  => ?_⟩
   have c0 := c0.trans c7.none
   refine g_name (σ' := [some (.str (toS d0)), some (.str (toS d1)), some (.str (toS d2)), some (.str (toS d3)), some (.str (toS d4)), some v9, none, none]) rfl ?_
   refine q_asg ?_
   refine w_lst ?_
   refine w_cons ?_
   refine w_call ?_
   refine w_args (va_cons (val_var rfl) (va_cons val_c (va_cons val_c va_nil))) ?_
   obtain ⟨q11, hq11, hm⟩ := Mi.bnd hm
   refine ⟨d0, (3 : Int), (3 : Int), q11, rfl, hq11, fun v14 H13 c12 r15  => ?_⟩
   have r10 := Ty.fz r10 c12
   have c0 := c0.trans c12.none
   refine w_cons ?_
   refine w_call ?_
   refine w_args (va_cons (val_var rfl) (va_cons val_c (va_cons val_c va_nil))) ?_
   obtain ⟨q16, hq16, hm⟩ := Mi.bnd hm
   refine ⟨d1, (3 : Int), (999 : Int), q16, rfl, hq16, fun v19 H18 c17 r20  => ?_⟩
   have r10 := Ty.fz r10 c17
   have r15 := Ty.fz r15 c17
   have c0 := c0.trans c17.none
   refine w_nil ?_
   refine e_lst (K := K) (τ := (yOpt yInt)) (by exact Nat.le_of_ble_eq_true rfl) (.cons r15 (.cons r20 .nil)) fun p21 H25 np24 c22 r23 => ?_
   have n26 : ∀ a ∈ [p21], H0 a = none := one_fresh (c0.dom p21 np24)
   have r10 := Ty.fz r10 c22
   have r15 := Ty.fz r15 c22
   have r20 := Ty.fz r20 c22
   have c0 := c0.trans c22.none
   refine g_name (σ' := [some (.str (toS d0)), some (.str (toS d1)), some (.str (toS d2)), some (.str (toS d3)), some (.str (toS d4)), some v9, some (.ref p21), none]) rfl ?_
   refine q_asg ?_
   refine w_call ?_
   refine w_args (va_cons (val_var rfl) (va_cons val_c (va_cons val_c va_nil))) ?_
   obtain ⟨q27, hq27, hm⟩ := Mi.bnd hm
   refine ⟨d4, (3 : Int), (99 : Int), q27, rfl, hq27, fun v30 H29 c28 r31  => ?_⟩
   have r10 := Ty.fz r10 c28
   have r23 := Ty.ex r23 c28
   have c0 := c0.trans c28.none
   refine g_name (σ' := [some (.str (toS d0)), some (.str (toS d1)), some (.str (toS d2)), some (.str (toS d3)), some (.str (toS d4)), some v9, some (.ref p21), some v30]) rfl ?_
   refine q_ifS ?_
   obtain ⟨b32, hb32, hm⟩ := Mi.bnd hm
   refine j_tt b32 (R := fun H' => Chg ([] : List Addr) H0 H' ∧ (yOpt (yTupL yInt)).rep K H' [] v9 q6 ∧ (yLst (yOpt yInt)).rep K H' [p21] (.ref p21) [q11, q16] ∧ (yOpt yInt).rep K H' [] v30 q27) (fun Q' kq => ?_) (fun H' hj => ?_)
   ·
     refine w_or ?_
     refine w_test ?_
     refine w_op ?_
     refine c_val val_c ?_
     refine c_val (val_var rfl) ?_
     obtain ⟨z33, hz33, hb32⟩ := Mi.bnd hb32
     refine w_inN dn_int r23 hz33 ?_
     refine ⟨_, rfl, ?_⟩
     refine c_if (fun hb => ?_) (fun hb => ?_)
     ·
       replace hb32 := Mi.ifT hb hb32
       obtain rfl := Option.some.inj hb32
       exact kq _ ⟨c0, r10, r23, r31⟩
     replace hb32 := Mi.ifF hb hb32
     refine w_or ?_
     refine c_ans (ans_t (val_isN r10 (val_var rfl))) ?_
     refine c_if (fun hb => ?_) (fun hb => ?_)
     ·
       replace hb32 := Mi.ifT hb hb32
       obtain rfl := Option.some.inj hb32
       exact kq _ ⟨c0, r10, r23, r31⟩
     replace hb32 := Mi.ifF hb hb32
     refine w_or ?_
     refine c_ans (ans_t (val_niKB CN.kd_SIDES.choose_spec.2 (val_var rfl) val_c)) ?_
     refine c_if (fun hb => ?_) (fun hb => ?_)
     ·
       replace hb32 := Mi.ifT hb hb32
       obtain rfl := Option.some.inj hb32
       exact kq _ ⟨c0, r10, r23, r31⟩
     replace hb32 := Mi.ifF hb hb32
     refine w_or ?_
     refine c_ans (ans_t (val_isN r31 (val_var rfl))) ?_
     refine c_if (fun hb => ?_) (fun hb => ?_)
     ·
       replace hb32 := Mi.ifT hb hb32
       obtain rfl := Option.some.inj hb32
       exact kq _ ⟨c0, r10, r23, r31⟩
     replace hb32 := Mi.ifF hb hb32
     obtain ⟨x34, hx34, hb32⟩ := Mi.bnd hb32
     obtain ⟨_, rfl⟩ := opt_int r31 hx34
     refine c_ans (ans_t (val_eqI (val_var rfl) val_c)) ?_
     obtain rfl := Option.some.inj hb32
     exact kq _ ⟨c0, r10, r23, r31⟩
   obtain ⟨c0, r10, r23, r31⟩ := hj
   refine c_if (fun hb => ?_) (fun hb => ?_)
   ·
     replace hm := Mi.ifT hb hm
     refine q_ret ?_
     refine c_val val_c ?_
     obtain rfl := Option.some.inj hm
     exact hQ _ _ c0 opt_n 
   replace hm := Mi.ifF hb hm
   refine w_fall ?_
   refine q_ret ?_
   obtain ⟨x35, hx35, hm⟩ := Mi.bnd hm
   refine w_tup ?_
   refine w_cons ?_
   refine c_val (val_cS (a := ([114, 101, 112, 111, 114, 116] : List Nat)) (by decide +kernel)) ?_
   obtain ⟨p36, us37, ep36, sq38, pu39⟩ := star_o r23 hx35
   obtain rfl := V.ref.inj ep36
   refine w_star ?_
   refine c_val (val_var rfl) ⟨_, _, rfl, .inr sq38, ?_⟩
   obtain ⟨x40, hx40, hm⟩ := Mi.bnd hm
   refine w_args (va_cons (val_var rfl) (va_cons (val_ixKB CN.kd_SIDES.choose_spec.2 hx40 val_c (val_var rfl)) (va_cons (val_var rfl) va_nil))) ?_
   obtain ⟨x41, hx41, hm⟩ := Mi.bnd hm
   have r42 := opt_some r10 hx41
   obtain ⟨x43, hx43, hm⟩ := Mi.bnd hm
   obtain ⟨_, rfl⟩ := opt_int r31 hx43
   obtain ⟨z44, hz44, hm⟩ := Mi.bnd hm
   refine e_tupS (K := K) (τ := y5) (es := [(.inr (.inr (.inr (.inl x41)))), (.inr (.inr (.inl x40))), (.inl x43)]) hz44 (by exact Nat.le_of_ble_eq_true rfl) (sum_r (sum_l yStr_i)) (pr_i5 pu39) (.cons (sum_r (sum_r (sum_r (sum_l r42)))) (.cons (sum_r (sum_r (sum_l yBool_i))) (.cons (sum_l yInt_i) .nil))) fun p45 H49 np48 c46 r47 => ?_
   have r42 := Ty.fz r42 c46
   have r23 := Ty.ex r23 c46
   have c0 := c0.trans c46.none
   obtain rfl := Option.some.inj hm
   exact hQ _ _ c0 (opt_i (nn_tupl r47) r47) 
theorem sc_read_withdrawal : FnScope ["word", "number"] ["word"] (defScope s_read_withdrawal) := ⟨rfl, rfl, rfl, by decide +kernel, rfl, by decide +kernel, by decide +kernel⟩
def sp_read_withdrawal (K : PySem.W.Frag) : Sp := fun vs H Q _ => ∃ (d0 : (List Nat)) (r : (Option (List (Int ⊕ (List Nat) ⊕ Bool ⊕ (List Int) ⊕ (List Bool))))), vs = [(.str (toS d0))] ∧ Mi.m_read_withdrawal d0 = some r ∧ ∀ v H', Chg ([]) H H' → (yOpt (yTupL (ySum yInt (ySum yStr (ySum yBool (ySum (yTupL yInt) (yTupL yBool))))))).rep K H' [] v r → Q v H'
theorem ok_read_withdrawal (B : Bi mg) (CN : Cs w K mg) (D : Dfn K mg "read_withdrawal" s_read_withdrawal) (C_read_limited : Cal P w K mg "read_limited" ["text", "figures", "most"] 2 (sp_read_limited K)) : Cal P w K mg "read_withdrawal" ["word"] 3 (sp_read_withdrawal K) := by
 obtain ⟨f, fd, F, g⟩ := D.ex
 refine ⟨f, fd, g, F.kp, bindsF F (fun _ _ _ _ _ _ us hl => match us, hl with | [_], _ => rfl), fun base => F.ok sc_read_withdrawal (fun vs H Q E h => ?_) (fun cdv A outer s H0 vs Q E hr h => ?_)⟩
 · obtain ⟨d0, r, rfl, hm, hQ⟩ := h; rfl
 ·
   obtain ⟨d0, r, rfl, hm, hQ⟩ := h
   refine ⟨_, pss_cons (ps_set (i := 1) sc_read_withdrawal.nd rfl (.inl rfl) (pe_cc C_read_limited hr (pa_cons (pv 0) (pa_cons (pe_glob (v := .int 3) (by rfl) CN.c_FIGURES.choose_spec ⟨_, rfl⟩) (pa_cons (pe_glob (v := .int 999) (by rfl) CN.c_LAST_ENTRY.choose_spec ⟨_, rfl⟩) pa_nil)))))
     (pss_cons (ps_if (pt_cmpR op_isN1 (pv 1) pe_non (nomark _)) (pss_cons (ps_ret pe_non) pss_nil) (pss_nil))
     (pss_cons (ps_ret (pe_tup (pa_cons pe_str (pa_cons (pv 1) pa_nil)))) pss_nil)), ?_⟩
   have c0 : Chg ([] : List Addr) H0 H0 := Chg.refl H0
   unfold Mi.m_read_withdrawal at hm
   refine q_asg ?_
   refine w_call ?_
   refine w_args (va_cons (val_var rfl) (va_cons val_c (va_cons val_c va_nil))) ?_
   obtain ⟨q2, hq2, hm⟩ := Mi.bnd hm
   refine ⟨d0, (3 : Int), (999 : Int), q2, rfl, hq2, fun v5 H4 c3 r6  => ?_⟩
   have c0 := c0.trans c3.none
   refine g_name (σ' := [some (.str (toS d0)), some v5]) rfl ?_
   refine q_if (ans_t (val_isN r6 (val_var rfl))) (fun hb => ?_) (fun hb => ?_)
   ·
     replace hm := Mi.ifT hb hm
     refine q_ret ?_
     refine c_val val_c ?_
     obtain rfl := Option.some.inj hm
     exact hQ _ _ c0 opt_n 
   replace hm := Mi.ifF hb hm
   refine w_fall ?_
   refine q_ret ?_
   refine w_tup ?_
   refine w_args (va_cons (val_cS (a := ([119, 105, 116, 104, 100, 114, 97, 119] : List Nat)) (by decide +kernel)) (va_cons (val_var rfl) va_nil)) ?_
   obtain ⟨x7, hx7, hm⟩ := Mi.bnd hm
   obtain ⟨_, rfl⟩ := opt_int r6 hx7
   refine e_tupl (K := K) (τ := (ySum yInt (ySum yStr (ySum yBool (ySum (yTupL yInt) (yTupL yBool)))))) (xs := ([(.inr (.inl ([119, 105, 116, 104, 100, 114, 97, 119] : List Nat))), (.inl x7)] : (List (Int ⊕ (List Nat) ⊕ Bool ⊕ (List Int) ⊕ (List Bool))))) (by exact Nat.le_of_ble_eq_true rfl) (.cons (sum_r (sum_l yStr_i)) (.cons (sum_l yInt_i) .nil)) fun p8 H12 np11 c9 r10 => ?_
   have c0 := c0.trans c9.none
   obtain rfl := Option.some.inj hm
   exact hQ _ _ c0 (opt_i (nn_tupl r10) r10) 
abbrev N_read_flags : List Str := ["word", "flags", "sign"]
theorem sc_read_flags : FnScope ["word", "flags", "sign"] ["word"] (defScope s_read_flags) := ⟨rfl, rfl, rfl, by decide +kernel, rfl, by decide +kernel, by decide +kernel⟩
def sp_read_flags (K : PySem.W.Frag) : Sp := fun vs H Q _ => ∃ (d0 : (List Nat)) (r : (Option (List Bool))), vs = [(.str (toS d0))] ∧ Mi.m_read_flags d0 = some r ∧ ∀ v H', Chg ([]) H H' → (yOpt (yTupL yBool)).rep K H' [] v r → Q v H'
theorem ok_read_flags (B : Bi mg) (CN : Cs w K mg) (D : Dfn K mg "read_flags" s_read_flags)  : Cal P w K mg "read_flags" ["word"] 1 (sp_read_flags K) := by
 obtain ⟨f, fd, F, g⟩ := D.ex
 refine ⟨f, fd, g, F.kp, bindsF F (fun _ _ _ _ _ _ us hl => match us, hl with | [_], _ => rfl), fun base => F.ok sc_read_flags (fun vs H Q E h => ?_) (fun cdv A outer s H0 vs Q E hr h => ?_)⟩
 · obtain ⟨d0, r, rfl, hm, hQ⟩ := h; rfl
 ·
   obtain ⟨d0, r, rfl, hm, hQ⟩ := h
   refine ⟨_, pss_cons (ps_if (PW.pt (pw_or (pt_cmpR op_eq (pv 0) pe_str (nomark _)) (pw_or1 (pt_cmpR op_gt (pe_callB cl_lenTx (by rfl) B.len PySem.boot_len (pa_cons (pv 0) pa_nil)) (pe_glob (v := .int 4) (by rfl) CN.c_MOST_FLAGS.choose_spec ⟨_, rfl⟩) (nomark _))))) (pss_cons (ps_ret pe_non) pss_nil) (pss_nil))
     (pss_cons (ps_setLc (i := 1) (own := [("sign", 2)]) rfl sc_read_flags.nd rfl rfl (sw_true rfl rfl rfl (by decide +kernel)) (pi_str (pv 0)) (blkOk_by (own := [("sign", 2)]) (N := N_read_flags) (sc := defScope s_read_flags) (by decide +kernel)) (fun _ _ _ _ _ => (pg_name (i := 2) sc_read_flags.nd rfl (.inl rfl))) (fun _ _ _ _ _ => pts_nil) (fun _ _ _ _ _ => (pe_getK (K := K) (w := w) (d := ([(([121] : List Nat), true), (([110] : List Nat), false)] : List (List Nat × Bool))) (pe_glob (v := .ref CN.kd_FLAG_SIGNS.choose) (by rfl) CN.kd_FLAG_SIGNS.choose_spec.1 rfl) (pv 2) ⟨by rfl, by rfl, by rfl, by rfl⟩)))
     (pss_cons (ps_if (pt_cmpR (op_in_d (K := K) (units1 hr)) pe_non (pv 1) (by rfl)) (pss_cons (ps_ret pe_non) pss_nil) (pss_nil))
     (pss_cons (ps_ret (pe_callTy (cl_tuple (K := K)) (by rfl) B.tuple (by decide +kernel) (pa_cons (pv 1) pa_nil))) pss_nil))), ?_⟩
   have c0 : Chg ([] : List Addr) H0 H0 := Chg.refl H0
   unfold Mi.m_read_flags at hm
   obtain ⟨b4, hb4, hm⟩ := Mi.bnd hm
   refine q_if (ans_orO (ans_t (val_eqS (val_var rfl) (val_cS (a := ([] : List Nat)) (by decide +kernel)))) hb4 (fun hs2 => by (obtain ⟨x3, hx3, hs2⟩ := Mi.bnd hs2; cases hs2; exact (ans_t (val_gt (val_lenTx hx3 (val_var rfl)) val_c))))) (fun hb => ?_) (fun hb => ?_)
   ·
     replace hm := Mi.ifT hb hm
     refine q_ret ?_
     refine c_val val_c ?_
     obtain rfl := Option.some.inj hm
     exact hQ _ _ c0 opt_n 
   replace hm := Mi.ifF hb hm
   refine w_fall ?_
   refine q_asg ?_
   refine w_lc ?_
   refine w_iStr ?_
   refine c_val (val_var rfl) ?_
   obtain ⟨e5, he5, hm⟩ := Mi.bnd hm
   refine kc_str (K := K) (τ := (yOpt yBool)) (a := d0) (fun D7 i H' => ∃ (s6 : (List (Option Bool))), Chg ([] : List Addr) H0 H' ∧ (yLst (yOpt yBool)).rep K H' [D7] (.ref D7) s6 ∧ (∀ a ∈ [D7], H0 a = none) ∧ Mi.forN (Mi.m_read_flags_b1) s6 (List.drop i (Mi.signs d0)) = some e5) (fun D7 H13 np12 c11 r8 => ⟨([] : (List (Option Bool))), c0.trans c11.none, r8, one_fresh (c0.dom D7 np12), he5⟩) (fun D7 i16 x15 H17 hx14 hp => ?_) (fun D7 H' np12 hp => ?_)
   ·
     obtain ⟨s6, c0, r8, n10, hle5⟩ := hp
     obtain ⟨_, hbe5, hle5⟩ := Mi.forN_go hle5 hx14
     unfold Mi.m_read_flags_b1 at hbe5
     refine g_name (σ' := [some (.str (toS d0)), none, some (.str (toS x15))]) rfl ?_
     refine ⟨rfl, ?_⟩
     refine w_yes ?_
     refine iteT ?_
     refine c_val (val_getK CN.kd_FLAG_SIGNS.choose_spec.2 val_c (val_var rfl)) ?_
     obtain ⟨x24, hx24, hbe5⟩ := Mi.bnd hbe5
     refine e_app r8 (obV_r (K := K) (d := (Mi.dGetB ([(([121] : List Nat), true), (([110] : List Nat), false)] : List (List Nat × Bool)) x15))) hx24 fun H26 c25 r8 => ?_
     have c0 := c0.join c25 (fun a h => .inr (n10 a h))
     obtain rfl := Option.some.inj hbe5
     exact ⟨x24, c0, r8, n10, hle5⟩
   obtain ⟨s6, c0, r8, n10, hle5⟩ := hp
   obtain rfl := Mi.forN_end hle5
   refine g_name (σ' := [some (.str (toS d0)), some (.ref D7), none]) rfl ?_
   refine q_ifS ?_
   refine w_test ?_
   refine w_op ?_
   refine c_val val_c ?_
   refine c_val (val_var rfl) ?_
   obtain ⟨z27, hz27, hm⟩ := Mi.bnd hm
   refine w_inN dn_bool r8 hz27 ?_
   refine ⟨_, rfl, ?_⟩
   refine c_if (fun hb => ?_) (fun hb => ?_)
   ·
     replace hm := Mi.ifT hb hm
     refine q_ret ?_
     refine c_val val_c ?_
     obtain rfl := Option.some.inj hm
     exact hQ _ _ c0 opt_n 
   replace hm := Mi.ifF hb hm
   refine w_fall ?_
   refine q_ret ?_
   refine w_cb ?_
   refine w_args (va_cons (val_var rfl) va_nil) ?_
   obtain ⟨x28, hx28, hm⟩ := Mi.bnd hm
   refine w_tupleLo r8 hx28 fun v29 H30 c31 r32 => ?_
   have r8 := Ty.ex r8 c31
   have c0 := c0.trans c31.none
   obtain rfl := Option.some.inj hm
   exact hQ _ _ c0 (opt_i (nn_tupl r32) r32) 
theorem sc_read_receipt : FnScope ["letter", "event", "hour", "signs", "numbers", "flags"] ["letter", "event", "hour", "signs"] (defScope s_read_receipt) := ⟨rfl, rfl, rfl, by decide +kernel, rfl, by decide +kernel, by decide +kernel⟩
def sp_read_receipt (K : PySem.W.Frag) : Sp := fun vs H Q _ => ∃ (d0 : (List Nat)) (d1 : (List Nat)) (d2 : (List Nat)) (d3 : (List Nat)) (r : (Option (List (Int ⊕ (List Nat) ⊕ Bool ⊕ (List Int) ⊕ (List Bool))))), vs = [(.str (toS d0)), (.str (toS d1)), (.str (toS d2)), (.str (toS d3))] ∧ Mi.m_read_receipt d0 d1 d2 d3 = some r ∧ ∀ v H', Chg ([]) H H' → (yOpt (yTupL (ySum yInt (ySum yStr (ySum yBool (ySum (yTupL yInt) (yTupL yBool))))))).rep K H' [] v r → Q v H'
theorem ok_read_receipt (B : Bi mg) (CN : Cs w K mg) (D : Dfn K mg "read_receipt" s_read_receipt) (C_read_limited : Cal P w K mg "read_limited" ["text", "figures", "most"] 2 (sp_read_limited K)) (C_read_flags : Cal P w K mg "read_flags" ["word"] 1 (sp_read_flags K)) : Cal P w K mg "read_receipt" ["letter", "event", "hour", "signs"] 3 (sp_read_receipt K) := by
 obtain ⟨f, fd, F, g⟩ := D.ex
 refine ⟨f, fd, g, F.kp, bindsF F (fun _ _ _ _ _ _ us hl => match us, hl with | [_, _, _, _], _ => rfl), fun base => F.ok sc_read_receipt (fun vs H Q E h => ?_) (fun cdv A outer s H0 vs Q E hr h => ?_)⟩
 · obtain ⟨d0, d1, d2, d3, r, rfl, hm, hQ⟩ := h; rfl
 ·
   obtain ⟨d0, d1, d2, d3, r, rfl, hm, hQ⟩ := h
   refine ⟨_, pss_cons (ps_set (i := 4) sc_read_receipt.nd rfl (.inl rfl) (pe_lst (pa_cons (pe_cc C_read_limited hr (pa_cons (pv 0) (pa_cons (pe_glob (v := .int 3) (by rfl) CN.c_FIGURES.choose_spec ⟨_, rfl⟩) (pa_cons (pe_glob (v := .int 5) (by rfl) CN.c_LAST_LETTER.choose_spec ⟨_, rfl⟩) pa_nil)))) (pa_cons (pe_cc C_read_limited hr (pa_cons (pv 1) (pa_cons (pe_glob (v := .int 3) (by rfl) CN.c_FIGURES.choose_spec ⟨_, rfl⟩) (pa_cons (pe_glob (v := .int 6) (by rfl) CN.c_LAST_EVENT.choose_spec ⟨_, rfl⟩) pa_nil)))) pa_nil))))
     (pss_cons (ps_expr (pe_bm PySem.F.plainAttrs_list PySem.F.slot_list_append PySem.F.type_list_append mt_append (pv 4) (pa_cons (pe_cc C_read_limited hr (pa_cons (pv 2) (pa_cons (pe_glob (v := .int 3) (by rfl) CN.c_FIGURES.choose_spec ⟨_, rfl⟩) (pa_cons (pe_glob (v := .int 999) (by rfl) CN.c_LAST_HOUR.choose_spec ⟨_, rfl⟩) pa_nil)))) pa_nil)))
     (pss_cons (ps_set (i := 5) sc_read_receipt.nd rfl (.inl rfl) (pe_cc C_read_flags hr (pa_cons (pv 3) pa_nil)))
     (pss_cons (ps_if (PW.pt (pw_or (pt_cmpR (op_in_d (K := K) (units1 hr)) pe_non (pv 4) (by rfl)) (pw_or1 (pt_cmpR op_isN1 (pv 5) pe_non (nomark _))))) (pss_cons (ps_ret pe_non) pss_nil) (pss_nil))
     (pss_cons (ps_ret (pe_tup (pa_cons pe_str (StX.pa_star (pv 4) (pa_cons (pv 5) pa_nil))))) pss_nil)))), ?_⟩
   have c0 : Chg ([] : List Addr) H0 H0 := Chg.refl H0
   unfold Mi.m_read_receipt at hm
   refine q_asg ?_
   refine w_lst ?_
   refine w_cons ?_
   refine w_call ?_
   refine w_args (va_cons (val_var rfl) (va_cons val_c (va_cons val_c va_nil))) ?_
   obtain ⟨q5, hq5, hm⟩ := Mi.bnd hm
   refine ⟨d0, (3 : Int), (5 : Int), q5, rfl, hq5, fun v8 H7 c6 r9  => ?_⟩
   have c0 := c0.trans c6.none
   refine w_cons ?_
   refine w_call ?_
   refine w_args (va_cons (val_var rfl) (va_cons val_c (va_cons val_c va_nil))) ?_
   obtain ⟨q10, hq10, hm⟩ := Mi.bnd hm
   refine ⟨d1, (3 : Int), (6 : Int), q10, rfl, hq10, fun v13 H12 c11 r14  => ?_⟩
   have r9 := Ty.fz r9 c11
   have c0 := c0.trans c11.none
   refine w_nil ?_
   refine e_lst (K := K) (τ := (yOpt yInt)) (by exact Nat.le_of_ble_eq_true rfl) (.cons r9 (.cons r14 .nil)) fun p15 H19 np18 c16 r17 => ?_
   have n20 : ∀ a ∈ [p15], H0 a = none := one_fresh (c0.dom p15 np18)
   have r9 := Ty.fz r9 c16
   have r14 := Ty.fz r14 c16
   have c0 := c0.trans c16.none
   refine g_name (σ' := [some (.str (toS d0)), some (.str (toS d1)), some (.str (toS d2)), some (.str (toS d3)), some (.ref p15), none]) rfl ?_
   refine q_drop (w_bm (c_val (val_var rfl) ⟨tyv_lst r17, ?_⟩))
   refine w_cons ?_
   refine w_call ?_
   refine w_args (va_cons (val_var rfl) (va_cons val_c (va_cons val_c va_nil))) ?_
   obtain ⟨q21, hq21, hm⟩ := Mi.bnd hm
   refine ⟨d2, (3 : Int), (999 : Int), q21, rfl, hq21, fun v24 H23 c22 r25  => ?_⟩
   have r17 := Ty.ex r17 c22
   have c0 := c0.trans c22.none
   refine w_nil ?_
   obtain ⟨x26, hx26, hm⟩ := Mi.bnd hm
   refine m_app r17 r25 hx26 fun H28 c27 r17 => ?_
   have c0 := c0.join c27 (fun a h => .inr (n20 a h))
   refine q_asg ?_
   refine w_call ?_
   refine w_args (va_cons (val_var rfl) va_nil) ?_
   obtain ⟨q29, hq29, hm⟩ := Mi.bnd hm
   refine ⟨d3, q29, rfl, hq29, fun v32 H31 c30 r33  => ?_⟩
   have r17 := Ty.ex r17 c30
   have c0 := c0.trans c30.none
   refine g_name (σ' := [some (.str (toS d0)), some (.str (toS d1)), some (.str (toS d2)), some (.str (toS d3)), some (.ref p15), some v32]) rfl ?_
   refine q_ifS ?_
   obtain ⟨b34, hb34, hm⟩ := Mi.bnd hm
   refine j_tt b34 (R := fun H' => Chg ([] : List Addr) H0 H' ∧ (yLst (yOpt yInt)).rep K H' [p15] (.ref p15) x26 ∧ (yOpt (yTupL yBool)).rep K H' [] v32 q29) (fun Q' kq => ?_) (fun H' hj => ?_)
   ·
     refine w_or ?_
     refine w_test ?_
     refine w_op ?_
     refine c_val val_c ?_
     refine c_val (val_var rfl) ?_
     obtain ⟨z35, hz35, hb34⟩ := Mi.bnd hb34
     refine w_inN dn_int r17 hz35 ?_
     refine ⟨_, rfl, ?_⟩
     refine c_if (fun hb => ?_) (fun hb => ?_)
     ·
       replace hb34 := Mi.ifT hb hb34
       obtain rfl := Option.some.inj hb34
       exact kq _ ⟨c0, r17, r33⟩
     replace hb34 := Mi.ifF hb hb34
     refine c_ans (ans_t (val_isN r33 (val_var rfl))) ?_
     obtain rfl := Option.some.inj hb34
     exact kq _ ⟨c0, r17, r33⟩
   obtain ⟨c0, r17, r33⟩ := hj
   refine c_if (fun hb => ?_) (fun hb => ?_)
   ·
     replace hm := Mi.ifT hb hm
     refine q_ret ?_
     refine c_val val_c ?_
     obtain rfl := Option.some.inj hm
     exact hQ _ _ c0 opt_n 
   replace hm := Mi.ifF hb hm
   refine w_fall ?_
   refine q_ret ?_
   obtain ⟨x36, hx36, hm⟩ := Mi.bnd hm
   refine w_tup ?_
   refine w_cons ?_
   refine c_val (val_cS (a := ([114, 101, 99, 101, 105, 118, 101] : List Nat)) (by decide +kernel)) ?_
   obtain ⟨p37, us38, ep37, sq39, pu40⟩ := star_o r17 hx36
   obtain rfl := V.ref.inj ep37
   refine w_star ?_
   refine c_val (val_var rfl) ⟨_, _, rfl, .inr sq39, ?_⟩
   refine w_args (va_cons (val_var rfl) va_nil) ?_
   obtain ⟨x41, hx41, hm⟩ := Mi.bnd hm
   have r42 := opt_some r33 hx41
   obtain ⟨z43, hz43, hm⟩ := Mi.bnd hm
   refine e_tupS (K := K) (τ := y5) (es := [(.inr (.inr (.inr (.inr x41))))]) hz43 (by exact Nat.le_of_ble_eq_true rfl) (sum_r (sum_l yStr_i)) (pr_i5 pu40) (.cons (sum_r (sum_r (sum_r (sum_r r42)))) .nil) fun p44 H48 np47 c45 r46 => ?_
   have r17 := Ty.ex r17 c45
   have r42 := Ty.fz r42 c45
   have c0 := c0.trans c45.none
   obtain rfl := Option.some.inj hm
   exact hQ _ _ c0 (opt_i (nn_tupl r46) r46) 
theorem sc_read_deed : FnScope ["line", "ship", "hour", "side", "zone", "weight", "letter", "event", "signs", "number"] ["line"] (defScope s_read_deed) := ⟨rfl, rfl, rfl, by decide +kernel, rfl, by decide +kernel, by decide +kernel⟩
def sp_read_deed (K : PySem.W.Frag) : Sp := fun vs H Q _ => ∃ (d0 : (List Nat)) (r : (Option (List (Int ⊕ (List Nat) ⊕ Bool ⊕ (List Int) ⊕ (List Bool))))), vs = [(.str (toS d0))] ∧ Mi.m_read_deed d0 = some r ∧ ∀ v H', Chg ([]) H H' → (yOpt (yTupL (ySum yInt (ySum yStr (ySum yBool (ySum (yTupL yInt) (yTupL yBool))))))).rep K H' [] v r → Q v H'
theorem ok_read_deed (B : Bi mg) (CN : Cs w K mg) (D : Dfn K mg "read_deed" s_read_deed) (C_split_words : Cal P w K mg "split_words" ["line"] 1 (sp_split_words K)) (C_read_report : Cal P w K mg "read_report" ["ship", "hour", "side", "zone", "weight"] 4 (sp_read_report K)) (C_read_withdrawal : Cal P w K mg "read_withdrawal" ["word"] 3 (sp_read_withdrawal K)) (C_read_receipt : Cal P w K mg "read_receipt" ["letter", "event", "hour", "signs"] 3 (sp_read_receipt K)) : Cal P w K mg "read_deed" ["line"] 5 (sp_read_deed K) := by
 obtain ⟨f, fd, F, g⟩ := D.ex
 refine ⟨f, fd, g, F.kp, bindsF F (fun _ _ _ _ _ _ us hl => match us, hl with | [_], _ => rfl), fun base => F.ok sc_read_deed (fun vs H Q E h => ?_) (fun cdv A outer s H0 vs Q E hr h => ?_)⟩
 · obtain ⟨d0, r, rfl, hm, hQ⟩ := h; rfl
 ·
   obtain ⟨d0, r, rfl, hm, hQ⟩ := h
   refine ⟨_, pss_cons (ps_matchT (pe_cc C_split_words hr (pa_cons (pv 0) pa_nil)) (mt_seqL (.lit (.cap (i := 1) rfl rfl (.lit (.cap (i := 2) rfl rfl (.cap (i := 3) rfl rfl (.cap (i := 4) rfl rfl (.lit (.cap (i := 5) rfl rfl .nil)))))))) rfl sc_read_deed.nd (pss_cons (ps_ret (pe_cc C_read_report hr (pa_cons (pv 1) (pa_cons (pv 2) (pa_cons (pv 3) (pa_cons (pv 4) (pa_cons (pv 5) pa_nil))))))) pss_nil) (mt_seqL (.lit (.cap (i := 6) rfl rfl (.lit (.cap (i := 7) rfl rfl (.lit (.cap (i := 2) rfl rfl (.cap (i := 8) rfl rfl .nil))))))) rfl sc_read_deed.nd (pss_cons (ps_ret (pe_cc C_read_receipt hr (pa_cons (pv 6) (pa_cons (pv 7) (pa_cons (pv 2) (pa_cons (pv 8) pa_nil)))))) pss_nil) (mt_seqL (.lit (.cap (i := 9) rfl rfl .nil)) rfl sc_read_deed.nd (pss_cons (ps_ret (pe_cc C_read_withdrawal hr (pa_cons (pv 9) pa_nil))) pss_nil) mt_nil rfl rfl) rfl rfl) rfl rfl))
     (pss_cons (ps_ret pe_non) pss_nil), ?_⟩
   have c0 : Chg ([] : List Addr) H0 H0 := Chg.refl H0
   unfold Mi.m_read_deed at hm
   refine q_matchT ?_
   refine w_call ?_
   refine w_args (va_cons (val_var rfl) va_nil) ?_
   obtain ⟨q2, hq2, hm⟩ := Mi.bnd hm
   refine ⟨d0, q2, rfl, hq2, fun v5 H4 F7 c3 r6 fr8  => ?_⟩
   have n9 : ∀ a ∈ F7, H0 a = none := fun a h => c0.dom a (fr8 a h)
   have c0 := c0.trans c3.none
   obtain ⟨z10, hz10, hm⟩ := Mi.bnd hm
   refine w_msL (sp := [.inl "report", .inr ("ship", 1), .inl "at", .inr ("hour", 2), .inr ("side", 3), .inr ("zone", 4), .inl "weight", .inr ("weight", 5)]) r6 hz10 (by decide +kernel) (fun ys11 hz12 => ?_) (fun hz12 => ?_)
   ·
     subst hz12
     replace hm := Mi.optS hm
     obtain ⟨p13, hp13, hm⟩ := Mi.bnd hm
     obtain ⟨p14, hp14, hm⟩ := Mi.bnd hm
     obtain ⟨p15, hp15, hm⟩ := Mi.bnd hm
     obtain ⟨p16, hp16, hm⟩ := Mi.bnd hm
     obtain ⟨p17, hp17, hm⟩ := Mi.bnd hm
     refine st_eq (σ' := [some (.str (toS d0)), some (.str (toS p13.1)), some (.str (toS p14.1)), some (.str (toS p15.1)), some (.str (toS p16.1)), some (.str (toS p17.1)), none, none, none, none]) (by rw [Mi.unc_eq hp13, Mi.unc_eq hp14, Mi.unc_eq hp15, Mi.unc_eq hp16, Mi.unc_eq hp17]; rfl) ?_
     refine q_ret ?_
     refine w_call ?_
     refine w_args (va_cons (val_var rfl) (va_cons (val_var rfl) (va_cons (val_var rfl) (va_cons (val_var rfl) (va_cons (val_var rfl) va_nil))))) ?_
     obtain ⟨q18, hq18, hm⟩ := Mi.bnd hm
     refine ⟨p13.1, p14.1, p15.1, p16.1, p17.1, q18, rfl, hq18, fun v21 H20 c19 r22  => ?_⟩
     have c0 := c0.trans c19.none
     obtain rfl := Option.some.inj hm
     exact hQ _ _ c0 r22 
   subst hz12
   replace hm := Mi.optN hm
   obtain ⟨z23, hz23, hm⟩ := Mi.bnd hm
   refine w_msL (sp := [.inl "receive", .inr ("letter", 6), .inl "event", .inr ("event", 7), .inl "at", .inr ("hour", 2), .inr ("signs", 8)]) r6 hz23 (by decide +kernel) (fun ys24 hz25 => ?_) (fun hz25 => ?_)
   ·
     subst hz25
     replace hm := Mi.optS hm
     obtain ⟨p26, hp26, hm⟩ := Mi.bnd hm
     obtain ⟨p27, hp27, hm⟩ := Mi.bnd hm
     obtain ⟨p28, hp28, hm⟩ := Mi.bnd hm
     obtain ⟨p29, hp29, hm⟩ := Mi.bnd hm
     refine st_eq (σ' := [some (.str (toS d0)), none, some (.str (toS p28.1)), none, none, none, some (.str (toS p26.1)), some (.str (toS p27.1)), some (.str (toS p29.1)), none]) (by rw [Mi.unc_eq hp26, Mi.unc_eq hp27, Mi.unc_eq hp28, Mi.unc_eq hp29]; rfl) ?_
     refine q_ret ?_
     refine w_call ?_
     refine w_args (va_cons (val_var rfl) (va_cons (val_var rfl) (va_cons (val_var rfl) (va_cons (val_var rfl) va_nil)))) ?_
     obtain ⟨q30, hq30, hm⟩ := Mi.bnd hm
     refine ⟨p26.1, p27.1, p28.1, p29.1, q30, rfl, hq30, fun v33 H32 c31 r34  => ?_⟩
     have c0 := c0.trans c31.none
     obtain rfl := Option.some.inj hm
     exact hQ _ _ c0 r34 
   subst hz25
   replace hm := Mi.optN hm
   obtain ⟨z35, hz35, hm⟩ := Mi.bnd hm
   refine w_msL (sp := [.inl "withdraw", .inr ("number", 9)]) r6 hz35 (by decide +kernel) (fun ys36 hz37 => ?_) (fun hz37 => ?_)
   ·
     subst hz37
     replace hm := Mi.optS hm
     obtain ⟨p38, hp38, hm⟩ := Mi.bnd hm
     refine st_eq (σ' := [some (.str (toS d0)), none, none, none, none, none, none, none, none, some (.str (toS p38.1))]) (by rw [Mi.unc_eq hp38]; rfl) ?_
     refine q_ret ?_
     refine w_call ?_
     refine w_args (va_cons (val_var rfl) va_nil) ?_
     obtain ⟨q39, hq39, hm⟩ := Mi.bnd hm
     refine ⟨p38.1, q39, rfl, hq39, fun v42 H41 c40 r43  => ?_⟩
     have c0 := c0.trans c40.none
     obtain rfl := Option.some.inj hm
     exact hQ _ _ c0 r43 
   subst hz37
   replace hm := Mi.optN hm
   refine w_fall ?_
   refine q_ret ?_
   refine c_val val_c ?_
   obtain rfl := Option.some.inj hm
   exact hQ _ _ c0 opt_n 
theorem sc_parse_deeds : FnScope ["text", "found", "index", "line", "deed"] ["text"] (defScope s_parse_deeds) := ⟨rfl, rfl, rfl, by decide +kernel, rfl, by decide +kernel, by decide +kernel⟩
def sp_parse_deeds (K : PySem.W.Frag) : Sp := fun vs H Q _ => ∃ (d0 : (List Nat)) (r : (List (List (Int ⊕ (List Nat) ⊕ Bool ⊕ (List Int) ⊕ (List Bool))))), vs = [(.str (toS d0))] ∧ Mi.m_parse_deeds d0 = some r ∧ ∀ v H' F, Chg ([]) H H' → (yLst (yTupL (ySum yInt (ySum yStr (ySum yBool (ySum (yTupL yInt) (yTupL yBool))))))).rep K H' F v r → (∀ a ∈ F, H a = none) → Q v H'
theorem ok_parse_deeds (B : Bi mg) (CN : Cs w K mg) (D : Dfn K mg "parse_deeds" s_parse_deeds) (C_text_lines : Cal P w K mg "text_lines" ["text"] 1 (sp_text_lines K)) (C_read_deed : Cal P w K mg "read_deed" ["line"] 5 (sp_read_deed K)) : Cal P w K mg "parse_deeds" ["text"] 6 (sp_parse_deeds K) := by
 obtain ⟨f, fd, F, g⟩ := D.ex
 refine ⟨f, fd, g, F.kp, bindsF F (fun _ _ _ _ _ _ us hl => match us, hl with | [_], _ => rfl), fun base => F.ok sc_parse_deeds (fun vs H Q E h => ?_) (fun cdv A outer s H0 vs Q E hr h => ?_)⟩
 · obtain ⟨d0, r, rfl, hm, hQ⟩ := h; rfl
 ·
   obtain ⟨d0, r, rfl, hm, hQ⟩ := h
   refine ⟨_, pss_cons (ps_set (i := 1) sc_parse_deeds.nd rfl (.inl rfl) (pe_lst pa_nil))
     (pss_cons (ps_for PassesOwn.never rfl (pi_enum (by rfl) B.enumerate (pa_cons (pe_cc C_text_lines hr (pa_cons (pv 0) pa_nil)) pa_nil)) (pg_tupk (K := K) (n := 2) rfl (pgs_cons (pg_name (i := 2) sc_parse_deeds.nd rfl (.inl rfl)) (pgs_cons (pg_name (i := 3) sc_parse_deeds.nd rfl (.inl rfl)) pgs_nil))) (pss_ifNC (i := 4) sc_parse_deeds.nd rfl (.inl rfl) (pe_cc C_read_deed hr (pa_cons (pv 3) pa_nil)) op_isN1 pe_non (nomark _) (pss_cons ps_never pss_nil) (pss_nil) (pss_cons (ps_expr (pe_bm PySem.F.plainAttrs_list PySem.F.slot_list_append PySem.F.type_list_append mt_append (pv 1) (pa_cons (pv 4) pa_nil)))
     (pss_nil))))
     (pss_cons (ps_ret (pv 1)) pss_nil)), ?_⟩
   have c0 : Chg ([] : List Addr) H0 H0 := Chg.refl H0
   unfold Mi.m_parse_deeds at hm
   refine q_asg ?_
   refine w_lst ?_
   refine w_args va_nil ?_
   refine e_lst (K := K) (τ := (yTupL (ySum yInt (ySum yStr (ySum yBool (ySum (yTupL yInt) (yTupL yBool))))))) (by exact Nat.le_of_ble_eq_true rfl) .nil fun p2 H6 np5 c3 r4 => ?_
   have n7 : ∀ a ∈ [p2], H0 a = none := one_fresh (c0.dom p2 np5)
   have c0 := c0.trans c3.none
   refine g_name (σ' := [some (.str (toS d0)), some (.ref p2), none, none, none]) rfl ?_
   refine q_for ?_
   refine w_iEnum ?_
   refine w_cons ?_
   refine w_call ?_
   refine w_args (va_cons (val_var rfl) va_nil) ?_
   obtain ⟨q8, hq8, hm⟩ := Mi.bnd hm
   refine ⟨d0, q8, rfl, hq8, fun v11 H10 F13 c9 r12 fr14  => ?_⟩
   have d15 : Dj [p2] F13 := Ty.fresh r4 fr14
   have n16 : ∀ a ∈ F13, H0 a = none := fun a h => c0.dom a (fr14 a h)
   have r4 := Ty.ex r4 c9
   have c0 := c0.trans c9.none
   refine w_nil ?_
   obtain ⟨e17, he17, hm⟩ := Mi.bnd hm
   refine l_enum r12 (fun i σ' H' => ∃ (s18 : (List (List (Int ⊕ (List Nat) ⊕ Bool ⊕ (List Int) ⊕ (List Bool))))) (y19 : Option V) (y20 : Option V) (y21 : Option V), σ' = [some (.str (toS d0)), some (.ref p2), y19, y20, y21] ∧ Chg ([] : List Addr) H0 H' ∧ (yLst (yTupL (ySum yInt (ySum yStr (ySum yBool (ySum (yTupL yInt) (yTupL yBool))))))).rep K H' [p2] (.ref p2) s18 ∧ (yLst yStr).rep K H' F13 v11 q8 ∧ Mi.forN (Mi.m_parse_deeds_b1) s18 (List.drop i (Mi.enumF 0 q8)) = some e17) ⟨([] : (List (List (Int ⊕ (List Nat) ⊕ Bool ⊕ (List Int) ⊕ (List Bool))))), none, none, none, rfl, c0, r4, r12, he17⟩ (fun i σ' H' hp => by obtain ⟨s18, y19, y20, y21, rfl, c0, r4, r12, _⟩ := hp; exact r12) (fun i24 x23 u25 σ' H' H28 hx22 c27 r26 hp => ?_) (fun σ' H' hp => ?_)
   ·
     obtain ⟨s18, y19, y20, y21, rfl, c0, r4, r12, hle17⟩ := hp
     obtain ⟨_, hbe17, hle17⟩ := Mi.forN_go hle17 hx22
     unfold Mi.m_parse_deeds_b1 at hbe17
     have r4 := Ty.ex r4 c27
     have r12 := Ty.ex r12 c27
     have c0 := c0.trans c27.none
     obtain ⟨_, rfl⟩ := r26
     refine st_eq (σ' := [some (.str (toS d0)), some (.ref p2), some (.int x23.1), some (.str (toS x23.2)), y21]) rfl ?_
     refine q_asg ?_
     refine w_call ?_
     refine w_args (va_cons (val_var rfl) va_nil) ?_
     obtain ⟨q29, hq29, hbe17⟩ := Mi.bnd hbe17
     refine ⟨x23.2, q29, rfl, hq29, fun v32 H31 c30 r33  => ?_⟩
     have r4 := Ty.ex r4 c30
     have r12 := Ty.ex r12 c30
     have c0 := c0.trans c30.none
     refine g_name (σ' := [some (.str (toS d0)), some (.ref p2), some (.int x23.1), some (.str (toS x23.2)), some v32]) rfl ?_
     refine q_if (ans_t (val_isN r33 (val_var rfl))) (fun hb => ?_) (fun hb => ?_)
     ·
       replace hbe17 := Mi.ifT hb hbe17
       cases hbe17
     replace hbe17 := Mi.ifF hb hbe17
     refine w_fall ?_
     refine q_drop (w_bm (c_val (val_var rfl) ⟨tyv_lst r4, ?_⟩))
     refine w_args (va_cons (val_var rfl) va_nil) ?_
     obtain ⟨x34, hx34, hbe17⟩ := Mi.bnd hbe17
     have r35 := opt_some r33 hx34
     obtain ⟨x36, hx36, hbe17⟩ := Mi.bnd hbe17
     refine m_app r4 r35 hx36 fun H38 c37 r4 => ?_
     have r35 := Ty.fz r35 c37
     have r12 := Ty.chg r12 c37 d15.symm
     have c0 := c0.join c37 (fun a h => .inr (n7 a h))
     refine w_nextJ ?_
     obtain rfl := Option.some.inj hbe17
     exact ⟨_, (some (.int x23.1)), (some (.str (toS x23.2))), (some v32), rfl, c0, r4, r12, hle17⟩
   obtain ⟨s18, y19, y20, y21, rfl, c0, r4, r12, hle17⟩ := hp
   obtain rfl := Mi.forN_end hle17
   refine q_ret ?_
   refine c_val (val_var rfl) ?_
   obtain rfl := Option.some.inj hm
   exact hQ _ _ _ c0 r4 n7 
theorem sc_parse_deeds_x : FnScope ["text", "found", "index", "line", "deed"] ["text"] (defScope s_parse_deeds_x) := ⟨rfl, rfl, rfl, by decide +kernel, rfl, by decide +kernel, by decide +kernel⟩
def sp_parse_deeds_x (K : PySem.W.Frag) : Sp := fun vs H Q E => ∃ (d0 : (List Nat)) (r : (Int ⊕ (List (List (Int ⊕ (List Nat) ⊕ Bool ⊕ (List Int) ⊕ (List Bool)))))), vs = [(.str (toS d0))] ∧ Mi.m_parse_deeds_x d0 = some r ∧ (∀ y, r = .inl y → ∀ d H', Chg ([]) H H' → H' d = none → E (.ref (He.ga K "BadText")) (some d) (upd H' d (.xd [(("line" : Str), (.int y))]))) ∧ ∀ ra, r = .inr ra → ∀ v H' F, Chg ([]) H H' → (yLst (yTupL (ySum yInt (ySum yStr (ySum yBool (ySum (yTupL yInt) (yTupL yBool))))))).rep K H' F v ra → (∀ a ∈ F, H a = none) → Q v H'
theorem ok_parse_deeds_x (B : Bi mg) (CN : Cs w K mg) (D : Dfn K mg "parse_deeds" s_parse_deeds_x) (T_BadText : PySem.ErrI_line.ErrTxt P K mg "BadText" "BadText.__init__" (inClass (topS 16) 0) (He.ga K "BadText") (He.fAd K ("BadText", some "__init__"))) (C_text_lines : Cal P w K mg "text_lines" ["text"] 1 (sp_text_lines K)) (C_read_deed : Cal P w K mg "read_deed" ["line"] 5 (sp_read_deed K)) : CalXN P w K mg "parse_deeds" ["text"] 6 (sp_parse_deeds_x K) := by
 obtain ⟨f, fd, F, g⟩ := D.ex
 refine ⟨f, fd, g, F.kp, bindsF F (fun _ _ _ _ _ _ us hl => match us, hl with | [_], _ => rfl), fun base => okXN F sc_parse_deeds_x (fun vs H Q E h => ?_) (fun cdv A outer s H0 vs Q E hr h => ?_)⟩
 · obtain ⟨d0, r, rfl, hm, hE, hQ⟩ := h; rfl
 ·
   obtain ⟨d0, r, rfl, hm, hE, hQ⟩ := h
   refine ⟨_, pss_cons (ps_set (i := 1) sc_parse_deeds_x.nd rfl (.inl rfl) (pe_lst pa_nil))
     (pss_cons (ps_for (passes_of rfl) rfl (pi_enum (by rfl) B.enumerate (pa_cons (pe_cc C_text_lines hr (pa_cons (pv 0) pa_nil)) pa_nil)) (pg_tupk (K := K) (n := 2) rfl (pgs_cons (pg_name (i := 2) sc_parse_deeds_x.nd rfl (.inl rfl)) (pgs_cons (pg_name (i := 3) sc_parse_deeds_x.nd rfl (.inl rfl)) pgs_nil))) (pss_ifNC (i := 4) sc_parse_deeds_x.nd rfl (.inl rfl) (pe_cc C_read_deed hr (pa_cons (pv 3) pa_nil)) op_isN1 pe_non (nomark _) (pss_cons (L2N.ps_raise rfl (L2N.takes_of rfl rfl rfl rfl) (pmk_err_line T_BadText hr (pa_cons (pe_op op_add (pv 2) pe_int) pa_nil))) pss_nil) (pss_nil) (pss_cons (ps_expr (pe_bm PySem.F.plainAttrs_list PySem.F.slot_list_append PySem.F.type_list_append mt_append (pv 1) (pa_cons (pv 4) pa_nil)))
     (pss_nil))))
     (pss_cons (ps_ret (pv 1)) pss_nil)), ?_⟩
   have c0 : Chg ([] : List Addr) H0 H0 := Chg.refl H0
   unfold Mi.m_parse_deeds_x at hm
   refine q_asg ?_
   refine w_lst ?_
   refine w_args va_nil ?_
   refine e_lst (K := K) (τ := (yTupL (ySum yInt (ySum yStr (ySum yBool (ySum (yTupL yInt) (yTupL yBool))))))) (by exact Nat.le_of_ble_eq_true rfl) .nil fun p2 H6 np5 c3 r4 => ?_
   have n7 : ∀ a ∈ [p2], H0 a = none := one_fresh (c0.dom p2 np5)
   have c0 := c0.trans c3.none
   refine g_name (σ' := [some (.str (toS d0)), some (.ref p2), none, none, none]) rfl ?_
   refine q_for ?_
   refine w_iEnum ?_
   refine w_cons ?_
   refine w_call ?_
   refine w_args (va_cons (val_var rfl) va_nil) ?_
   obtain ⟨q8, hq8, hm⟩ := Mi.bnd hm
   refine ⟨d0, q8, rfl, hq8, fun v11 H10 F13 c9 r12 fr14  => ?_⟩
   have d15 : Dj [p2] F13 := Ty.fresh r4 fr14
   have n16 : ∀ a ∈ F13, H0 a = none := fun a h => c0.dom a (fr14 a h)
   have r4 := Ty.ex r4 c9
   have c0 := c0.trans c9.none
   refine w_nil ?_
   obtain ⟨e17, he17, hm⟩ := Mi.bnd hm
   refine l_enum r12 (fun i σ' H' => ∃ (s18 : (List (List (Int ⊕ (List Nat) ⊕ Bool ⊕ (List Int) ⊕ (List Bool))))) (y19 : Option V) (y20 : Option V) (y21 : Option V), σ' = [some (.str (toS d0)), some (.ref p2), y19, y20, y21] ∧ Chg ([] : List Addr) H0 H' ∧ (yLst (yTupL (ySum yInt (ySum yStr (ySum yBool (ySum (yTupL yInt) (yTupL yBool))))))).rep K H' [p2] (.ref p2) s18 ∧ (yLst yStr).rep K H' F13 v11 q8 ∧ Mi.forR (Mi.m_parse_deeds_x_b1) s18 (List.drop i (Mi.enumF 0 q8)) = some e17) ⟨([] : (List (List (Int ⊕ (List Nat) ⊕ Bool ⊕ (List Int) ⊕ (List Bool))))), none, none, none, rfl, c0, r4, r12, he17⟩ (fun i σ' H' hp => by obtain ⟨s18, y19, y20, y21, rfl, c0, r4, r12, _⟩ := hp; exact r12) (fun i24 x23 u25 σ' H' H28 hx22 c27 r26 hp => ?_) (fun σ' H' hp => ?_)
   ·
     obtain ⟨s18, y19, y20, y21, rfl, c0, r4, r12, hle17⟩ := hp
     obtain ⟨o29, hbe17, hore17⟩ := Mi.forR_go hle17 hx22
     unfold Mi.m_parse_deeds_x_b1 at hbe17
     have r4 := Ty.ex r4 c27
     have r12 := Ty.ex r12 c27
     have c0 := c0.trans c27.none
     obtain ⟨_, rfl⟩ := r26
     refine st_eq (σ' := [some (.str (toS d0)), some (.ref p2), some (.int x23.1), some (.str (toS x23.2)), y21]) rfl ?_
     refine q_asg ?_
     refine w_call ?_
     refine w_args (va_cons (val_var rfl) va_nil) ?_
     obtain ⟨q30, hq30, hbe17⟩ := Mi.bnd hbe17
     refine ⟨x23.2, q30, rfl, hq30, fun v33 H32 c31 r34  => ?_⟩
     have r4 := Ty.ex r4 c31
     have r12 := Ty.ex r12 c31
     have c0 := c0.trans c31.none
     refine g_name (σ' := [some (.str (toS d0)), some (.ref p2), some (.int x23.1), some (.str (toS x23.2)), some v33]) rfl ?_
     refine q_if (ans_t (val_isN r34 (val_var rfl))) (fun hb => ?_) (fun hb => ?_)
     ·
       replace hbe17 := Mi.ifT hb hbe17
       obtain ⟨z35, hz35, hbe17⟩ := Mi.bnd hbe17
       obtain rfl := Option.some.inj hbe17
       obtain rfl := Mi.or_inl hore17
       obtain rfl := Option.some.inj (Mi.orR_inl hm)
       exact q_raise_line hz35 (val_add (val_var rfl) val_c) (fun d nd => hE _ rfl d _ c0 nd)
     replace hbe17 := Mi.ifF hb hbe17
     refine w_fall ?_
     refine q_drop (w_bm (c_val (val_var rfl) ⟨tyv_lst r4, ?_⟩))
     refine w_args (va_cons (val_var rfl) va_nil) ?_
     obtain ⟨x36, hx36, hbe17⟩ := Mi.bnd hbe17
     have r37 := opt_some r34 hx36
     obtain ⟨x38, hx38, hbe17⟩ := Mi.bnd hbe17
     refine m_app r4 r37 hx38 fun H40 c39 r4 => ?_
     have r37 := Ty.fz r37 c39
     have r12 := Ty.chg r12 c39 d15.symm
     have c0 := c0.join c39 (fun a h => .inr (n7 a h))
     refine w_nextJ ?_
     obtain rfl := Option.some.inj hbe17
     replace hore17 := Mi.or_inr hore17
     exact ⟨_, (some (.int x23.1)), (some (.str (toS x23.2))), (some v33), rfl, c0, r4, r12, hore17⟩
   obtain ⟨s18, y19, y20, y21, rfl, c0, r4, r12, hle17⟩ := hp
   obtain rfl := Mi.forR_end hle17
   replace hm := Mi.orR_inr hm
   refine q_ret ?_
   refine c_val (val_var rfl) ?_
   obtain rfl := Option.some.inj hm
   have hQ := hQ _ rfl
   exact hQ _ _ _ c0 r4 n7 
theorem sc_l_hand : FnScope ["_law_script", "_law_k", "_law_cell", "_law_rest"] ["_law_script", "_law_k"] (defScope s_l_hand) := ⟨rfl, rfl, rfl, by decide +kernel, rfl, by decide +kernel, by decide +kernel⟩
def sp_l_hand (K : PySem.W.Frag) : Sp := fun vs H Q _ => ∃ (v0 : V) (d0 : (List Int)) (d1 : Int) (r : (List Int)), vs = [v0, (.int d1)] ∧ yScr.rep K H [] v0 d0 ∧ Mi.m_l_hand d0 d1 = some r ∧ ∀ v H' F, Chg ([]) H H' → (yLst yInt).rep K H' F v r → (∀ a ∈ F, H a = none) → Q v H'
theorem ok_l_hand (B : Bi mg) (CN : Cs w K mg) (D : Dfn K mg "_law_hand" s_l_hand)  : Cal P w K mg "_law_hand" ["_law_script", "_law_k"] 1 (sp_l_hand K) := by
 obtain ⟨f, fd, F, g⟩ := D.ex
 refine ⟨f, fd, g, F.kp, bindsF F (fun _ _ _ _ _ _ us hl => match us, hl with | [_, _], _ => rfl), fun base => F.ok sc_l_hand (fun vs H Q E h => ?_) (fun cdv A outer s H0 vs Q E hr h => ?_)⟩
 · obtain ⟨v0, d0, d1, r, rfl, r0, hm, hQ⟩ := h; rfl
 ·
   obtain ⟨v0, d0, d1, r, rfl, r0, hm, hQ⟩ := h
   refine ⟨_, pss_cons (ps_set (i := 2) sc_l_hand.nd rfl (.inl rfl) pe_int)
     (pss_cons (ps_if (pt_cmpR op_lt (pv 1) (pe_callB (cl_len (K := K)) (by rfl) B.len PySem.boot_len (pa_cons (pv 0) pa_nil)) (nomark _)) (pss_cons (ps_set (i := 2) sc_l_hand.nd rfl (.inl rfl) (pe_ix (ix_l (K := K)) (pv 0) (pv 1) (fun _ _ => rfl)))
     (pss_nil)) (pss_nil))
     (pss_cons (ps_if (pt_cmpR op_lt (pv 2) pe_int (nomark _)) (pss_cons (ps_set (i := 2) sc_l_hand.nd rfl (.inl rfl) (pe_op op_sub pe_int (pe_op op_mul pe_int (pv 2))))
     (pss_nil)) (pss_nil))
     (pss_cons (ps_set (i := 3) sc_l_hand.nd rfl (.inl rfl) pe_int)
     (pss_cons (ps_if (pt_cmpR op_ge (pv 2) (pe_op op_pow pe_int pe_int) (nomark _)) (pss_cons (ps_set (i := 3) sc_l_hand.nd rfl (.inl rfl) (pv 2))
     (pss_nil)) (pss_nil))
     (pss_cons (ps_ret (pe_lst (pa_cons (pv 3) (pa_cons (pe_op op_mod (pe_callTy cl_int (by rfl) B.int (by decide +kernel) (pa_cons (pe_op op_add (pe_op op_add (pv 2) (pe_op op_mul pe_int (pv 1))) pe_int) pa_nil)) pe_int) (pa_cons pe_int pa_nil))))) pss_nil))))), ?_⟩
   have c0 : Chg ([] : List Addr) H0 H0 := Chg.refl H0
   unfold Mi.m_l_hand at hm
   obtain ⟨cell3, hcell3, hm⟩ := Mi.letE hm
   refine q_setE val_c (congrArg V.int hcell3) (σ' := [some v0, some (.int d1), some (.int cell3), none]) rfl ?_
   obtain ⟨s4, hs4, hm⟩ := Mi.bnd hm
   refine s_join (R := fun σ' H' => σ' = [some v0, some (.int d1), some (.int s4), none] ∧ Chg ([] : List Addr) H0 H' ∧ yScr.rep K H' [] v0 d0) (fun nx kx => ?_) (fun σ' H' hj => ?_)
   ·
     refine s_if (ans_t (val_lt (val_var rfl) (val_lenS r0 (val_var rfl)))) (fun hb => ?_) (fun hb => ?_)
     ·
       replace hs4 := Mi.ifT hb hs4
       obtain ⟨x5, hx5, hs4⟩ := Mi.bnd hs4
       obtain ⟨cell6, hcell6, hs4⟩ := Mi.letE hs4
       refine q_setE (itm_S r0 hx5 (val_var rfl) (val_var rfl)) (congrArg V.int hcell6) (σ' := [some v0, some (.int d1), some (.int cell6), none]) rfl ?_
       refine w_nextJ ?_
       obtain rfl := Option.some.inj hs4
       exact kx _ _ ⟨rfl, c0, r0⟩
     ·
       replace hs4 := Mi.ifF hb hs4
       refine w_nextJ ?_
       obtain rfl := Option.some.inj hs4
       exact kx _ _ ⟨rfl, c0, r0⟩
   obtain ⟨rfl, c0, r0⟩ := hj
   obtain ⟨s7, hs7, hm⟩ := Mi.bnd hm
   refine s_join (R := fun σ' H' => σ' = [some v0, some (.int d1), some (.int s7), none] ∧ Chg ([] : List Addr) H0 H' ∧ yScr.rep K H' [] v0 d0) (fun nx kx => ?_) (fun σ' H' hj => ?_)
   ·
     refine s_if (ans_t (val_lt (val_var rfl) val_c)) (fun hb => ?_) (fun hb => ?_)
     ·
       replace hs7 := Mi.ifT hb hs7
       obtain ⟨cell8, hcell8, hs7⟩ := Mi.letE hs7
       refine q_setE (val_sub val_c (val_mulL val_c (val_var rfl) ⟨by decide, by decide⟩)) (congrArg V.int hcell8) (σ' := [some v0, some (.int d1), some (.int cell8), none]) rfl ?_
       refine w_nextJ ?_
       obtain rfl := Option.some.inj hs7
       exact kx _ _ ⟨rfl, c0, r0⟩
     ·
       replace hs7 := Mi.ifF hb hs7
       refine w_nextJ ?_
       obtain rfl := Option.some.inj hs7
       exact kx _ _ ⟨rfl, c0, r0⟩
   obtain ⟨rfl, c0, r0⟩ := hj
   obtain ⟨rest9, hrest9, hm⟩ := Mi.letE hm
   refine q_setE val_c (congrArg V.int hrest9) (σ' := [some v0, some (.int d1), some (.int s7), some (.int rest9)]) rfl ?_
   obtain ⟨s10, hs10, hm⟩ := Mi.bnd hm
   refine s_join (R := fun σ' H' => σ' = [some v0, some (.int d1), some (.int s7), some (.int s10)] ∧ Chg ([] : List Addr) H0 H' ∧ yScr.rep K H' [] v0 d0) (fun nx kx => ?_) (fun σ' H' hj => ?_)
   ·
     refine s_if (ans_t (val_ge (val_var rfl) (val_pow (n := 18) val_c val_c rfl (by decide) (by decide)))) (fun hb => ?_) (fun hb => ?_)
     ·
       replace hs10 := Mi.ifT hb hs10
       obtain ⟨rest11, hrest11, hs10⟩ := Mi.letE hs10
       refine q_setE (val_var rfl) (congrArg V.int hrest11) (σ' := [some v0, some (.int d1), some (.int s7), some (.int rest11)]) rfl ?_
       refine w_nextJ ?_
       obtain rfl := Option.some.inj hs10
       exact kx _ _ ⟨rfl, c0, r0⟩
     ·
       replace hs10 := Mi.ifF hb hs10
       refine w_nextJ ?_
       obtain rfl := Option.some.inj hs10
       exact kx _ _ ⟨rfl, c0, r0⟩
   obtain ⟨rfl, c0, r0⟩ := hj
   refine q_ret ?_
   refine w_lst ?_
   refine w_args (va_cons (val_var rfl) (va_cons (val_modc (val_int (val_add (val_add (val_var rfl) (val_mulL val_c (val_var rfl) ⟨by decide, by decide⟩)) val_c)) val_c (by decide)) (va_cons val_c va_nil))) ?_
   refine e_lst (K := K) (τ := yInt) (by exact Nat.le_of_ble_eq_true rfl) (.cons yInt_i (.cons yInt_i (.cons yInt_i .nil))) fun p12 H16 np15 c13 r14 => ?_
   have n17 : ∀ a ∈ [p12], H0 a = none := one_fresh (c0.dom p12 np15)
   have r0 := Ty.fz r0 c13
   have c0 := c0.trans c13.none
   obtain rfl := Option.some.inj hm
   exact hQ _ _ _ c0 r14 n17 
theorem sc_l_pick : FnScope ["_law_hand_here", "_law_size", "_law_digit", "_law_mixed"] ["_law_hand_here", "_law_size"] (defScope s_l_pick) := ⟨rfl, rfl, rfl, by decide +kernel, rfl, by decide +kernel, by decide +kernel⟩
def sp_l_pick (K : PySem.W.Frag) : Sp := fun vs H Q _ => ∃ (v0 : V) (F0 : List Addr) (d0 : (List Int)) (d1 : Int) (r : (Int × (List Int))), vs = [v0, (.int d1)] ∧ (yLst yInt).rep K H F0 v0 d0 ∧ Mi.m_l_pick d0 d1 = some r ∧ ∀ H', Chg (F0) H H' → (yLst yInt).rep K H' F0 v0 r.2 → Q (.int r.1) H'
theorem ok_l_pick (B : Bi mg) (CN : Cs w K mg) (D : Dfn K mg "_law_pick" s_l_pick)  : Cal P w K mg "_law_pick" ["_law_hand_here", "_law_size"] 1 (sp_l_pick K) := by
 obtain ⟨f, fd, F, g⟩ := D.ex
 refine ⟨f, fd, g, F.kp, bindsF F (fun _ _ _ _ _ _ us hl => match us, hl with | [_, _], _ => rfl), fun base => F.ok sc_l_pick (fun vs H Q E h => ?_) (fun cdv A outer s H0 vs Q E hr h => ?_)⟩
 · obtain ⟨v0, F0, d0, d1, r, rfl, r0, hm, hQ⟩ := h; rfl
 ·
   obtain ⟨v0, F0, d0, d1, r, rfl, r0, hm, hQ⟩ := h
   refine ⟨_, pss_cons (ps_if (pt_cmpR op_lt (pv 1) pe_int (nomark _)) (pss_cons (ps_ret pe_int) pss_nil) (pss_nil))
     (pss_cons (ps_if (pt_cmpR op_gt (pe_ix (ix_l (K := K)) (pv 0) pe_int (fun _ _ => rfl)) pe_int (nomark _)) (pss_cons (ps_set (i := 2) sc_l_pick.nd rfl (.inl rfl) (pe_op op_mod (pe_callTy cl_int (by rfl) B.int (by decide +kernel) (pa_cons (pe_ix (ix_l (K := K)) (pv 0) pe_int (fun _ _ => rfl)) pa_nil)) (pv 1)))
     (pss_cons (ps_asg (pe_op op_fdivW (pe_ix (ix_l (K := K)) (pv 0) pe_int (fun _ _ => rfl)) (pv 1)) (pg_sub (pv 0) pe_int set_list))
     (pss_cons (ps_ret (pv 2)) pss_nil))) (pss_nil))
     (pss_cons (ps_asg (pe_op op_add (pe_ix (ix_l (K := K)) (pv 0) pe_int (fun _ _ => rfl)) pe_int) (pg_sub (pv 0) pe_int set_list))
     (pss_cons (ps_set (i := 3) sc_l_pick.nd rfl (.inl rfl) (pe_op op_mod (pe_callTy cl_int (by rfl) B.int (by decide +kernel) (pa_cons (pe_op op_add (pe_op op_add (pe_ix (ix_l (K := K)) (pv 0) pe_int (fun _ _ => rfl)) (pe_op op_mul pe_int (pe_ix (ix_l (K := K)) (pv 0) pe_int (fun _ _ => rfl)))) pe_int) pa_nil)) pe_int))
     (pss_cons (ps_set (i := 3) sc_l_pick.nd rfl (.inl rfl) (pe_op op_mod (pe_callTy cl_int (by rfl) B.int (by decide +kernel) (pa_cons (pe_op op_mul (pv 3) (pe_op op_add (pv 3) pe_int)) pa_nil)) pe_int))
     (pss_cons (ps_set (i := 3) sc_l_pick.nd rfl (.inl rfl) (pe_op op_mod (pe_callTy cl_int (by rfl) B.int (by decide +kernel) (pa_cons (pe_op op_add (pe_op op_mul (pv 3) (pe_op op_add (pv 3) pe_int)) (pe_op op_mul pe_int (pe_ix (ix_l (K := K)) (pv 0) pe_int (fun _ _ => rfl)))) pa_nil)) pe_int))
     (pss_cons (ps_ret (pe_op op_mod (pe_callTy cl_int (by rfl) B.int (by decide +kernel) (pa_cons (pe_op op_fdiv (pv 3) pe_int) pa_nil)) (pv 1))) pss_nil)))))), ?_⟩
   have c0 : Chg (F0) H0 H0 := Chg.refl H0
   unfold Mi.m_l_pick at hm
   refine q_if (ans_t (val_lt (val_var rfl) val_c)) (fun hb => ?_) (fun hb => ?_)
   ·
     replace hm := Mi.ifT hb hm
     refine q_ret ?_
     refine c_val val_c ?_
     obtain rfl := Option.some.inj hm
     exact hQ _ c0 r0
   replace hm := Mi.ifF hb hm
   refine w_fall ?_
   obtain ⟨x3, hx3, hm⟩ := Mi.bnd hm
   refine q_if (ans_t (val_gt (itm_LI r0 hx3 (val_var rfl) val_c) val_c)) (fun hb => ?_) (fun hb => ?_)
   ·
     replace hm := Mi.ifT hb hm
     obtain ⟨x4, hx4, hm⟩ := Mi.bnd hm
     obtain ⟨x5, hx5, hm⟩ := Mi.bnd hm
     obtain ⟨digit6, hdigit6, hm⟩ := Mi.letE hm
     refine q_setE (val_mod (val_int (itm_LI r0 hx4 (val_var rfl) val_c)) (val_var rfl) hx5) (congrArg V.int hdigit6) (σ' := [some v0, some (.int d1), some (.int digit6), none]) rfl ?_
     refine q_asg ?_
     obtain ⟨x7, hx7, hm⟩ := Mi.bnd hm
     obtain ⟨x8, hx8, hm⟩ := Mi.bnd hm
     refine c_val (val_fdiv (itm_LI r0 hx7 (val_var rfl) val_c) (val_var rfl) hx8) ?_
     refine w_gsub ?_
     refine c_val (val_var rfl) ?_
     refine c_val val_c ?_
     obtain ⟨x9, hx9, hm⟩ := Mi.bnd hm
     refine m_set r0 yInt_i hx9 fun H11 c10 r0 => ?_
     have c0 := c0.join c10 (fun a h => .inl (h))
     refine q_ret ?_
     refine c_val (val_var rfl) ?_
     obtain rfl := Option.some.inj hm
     exact hQ _ c0 r0
   replace hm := Mi.ifF hb hm
   refine w_fall ?_
   refine q_asg ?_
   obtain ⟨x12, hx12, hm⟩ := Mi.bnd hm
   refine c_val (val_add (itm_LI r0 hx12 (val_var rfl) val_c) val_c) ?_
   refine w_gsub ?_
   refine c_val (val_var rfl) ?_
   refine c_val val_c ?_
   obtain ⟨x13, hx13, hm⟩ := Mi.bnd hm
   refine m_set r0 yInt_i hx13 fun H15 c14 r0 => ?_
   have c0 := c0.join c14 (fun a h => .inl (h))
   obtain ⟨x16, hx16, hm⟩ := Mi.bnd hm
   obtain ⟨x17, hx17, hm⟩ := Mi.bnd hm
   obtain ⟨mixed18, hmixed18, hm⟩ := Mi.letE hm
   refine q_setE (val_modc (val_int (val_add (val_add (itm_LI r0 hx16 (val_var rfl) val_c) (val_mulL val_c (itm_LI r0 hx17 (val_var rfl) val_c) ⟨by decide, by decide⟩)) val_c)) val_c (by decide)) (congrArg V.int hmixed18) (σ' := [some v0, some (.int d1), none, some (.int mixed18)]) rfl ?_
   obtain ⟨x19, hx19, hm⟩ := Mi.bnd hm
   obtain ⟨mixed20, hmixed20, hm⟩ := Mi.letE hm
   refine q_setE (val_modc (val_int (val_mul (val_var rfl) (val_add (val_var rfl) val_c) hx19)) val_c (by decide)) (congrArg V.int hmixed20) (σ' := [some v0, some (.int d1), none, some (.int mixed20)]) rfl ?_
   obtain ⟨x21, hx21, hm⟩ := Mi.bnd hm
   obtain ⟨x22, hx22, hm⟩ := Mi.bnd hm
   obtain ⟨mixed23, hmixed23, hm⟩ := Mi.letE hm
   refine q_setE (val_modc (val_int (val_add (val_mul (val_var rfl) (val_add (val_var rfl) val_c) hx21) (val_mulL val_c (itm_LI r0 hx22 (val_var rfl) val_c) ⟨by decide, by decide⟩))) val_c (by decide)) (congrArg V.int hmixed23) (σ' := [some v0, some (.int d1), none, some (.int mixed23)]) rfl ?_
   refine q_ret ?_
   obtain ⟨x24, hx24, hm⟩ := Mi.bnd hm
   refine c_val (val_mod (val_int (val_divc (val_var rfl) val_c ⟨by decide, by decide⟩)) (val_var rfl) hx24) ?_
   obtain rfl := Option.some.inj hm
   exact hQ _ c0 r0
theorem sc_l_int : FnScope ["_law_x"] ["_law_x"] (defScope s_l_int) := ⟨rfl, rfl, rfl, by decide +kernel, rfl, by decide +kernel, by decide +kernel⟩
def sp_l_int (K : PySem.W.Frag) : Sp := fun vs H Q _ => (∃ (d0 : Int) (r : Bool), vs = [(.int d0)] ∧ Mi.m_l_int_0 d0 = some r ∧ ∀ H', Chg ([]) H H' → Q (.bl r) H') ∨ (∃ (v0 : V) (d0 : (Option Int)) (r : Bool), vs = [v0] ∧ (yOpt yInt).rep K H [] v0 d0 ∧ Mi.m_l_int_1 d0 = some r ∧ ∀ H', Chg ([]) H H' → Q (.bl r) H') ∨ (∃ (v0 : V) (d0 : (Int ⊕ Bool)) (r : Bool), vs = [v0] ∧ (ySum yInt yBool).rep K H [] v0 d0 ∧ Mi.m_l_int_2 d0 = some r ∧ ∀ H', Chg ([]) H H' → Q (.bl r) H') ∨ (∃ (v0 : V) (d0 : (Int ⊕ (List Nat) ⊕ Bool ⊕ (List Int) ⊕ (List Bool))) (r : Bool), vs = [v0] ∧ (ySum yInt (ySum yStr (ySum yBool (ySum (yTupL yInt) (yTupL yBool))))).rep K H [] v0 d0 ∧ Mi.m_l_int_3 d0 = some r ∧ ∀ H', Chg ([]) H H' → Q (.bl r) H')
theorem ok_l_int (B : Bi mg) (CN : Cs w K mg) (D : Dfn K mg "_law_int" s_l_int)  : Cal P w K mg "_law_int" ["_law_x"] 1 (sp_l_int K) := by
 obtain ⟨f, fd, F, g⟩ := D.ex
 refine ⟨f, fd, g, F.kp, bindsF F (fun _ _ _ _ _ _ us hl => match us, hl with | [_], _ => rfl), fun base => F.ok sc_l_int (fun vs H Q E h => ?_) (fun cdv A outer s H0 vs Q E hr h => ?_)⟩
 · rcases h with ⟨d0, r, rfl, hm, hQ⟩ | ⟨v0, d0, r, rfl, r0, hm, hQ⟩ | ⟨v0, d0, r, rfl, r0, hm, hQ⟩ | ⟨v0, d0, r, rfl, r0, hm, hQ⟩
   all_goals first | rfl | (subst hvs; rfl)
 · rcases h with h | h | h | h
   ·
     obtain ⟨d0, r, rfl, hm, hQ⟩ := h
     refine ⟨_, pss_cons (ps_ret (pe_and (pe_callB (cl_isi (K := K)) (by rfl) B.isinstance (by decide +kernel) (pa_cons (pv 0) (pa_cons (pe_bltn (v := .ty "int") (by rfl) B.int (by decide +kernel) rfl) pa_nil))) (pe_one (pe_not (pe_callB (cl_isi (K := K)) (by rfl) B.isinstance (by decide +kernel) (pa_cons (pv 0) (pa_cons (pe_bltn (v := .ty "bool") (by rfl) B.bool (by decide +kernel) rfl) pa_nil))))))) pss_nil, ?_⟩
     have c0 : Chg ([] : List Addr) H0 H0 := Chg.refl H0
     unfold Mi.m_l_int_0 at hm
     refine q_ret ?_
     refine c_val (val_andV (val_isi (val_var rfl) ty_int (n := "int") (m := "int") (b := true) (by decide +kernel)) (fun _ => (val_notV (val_isi (val_var rfl) ty_int (n := "int") (m := "bool") (b := false) (by decide +kernel))))) ?_
     obtain rfl := Option.some.inj hm
     exact hQ _ c0 
   ·
     obtain ⟨v0, d0, r, rfl, r0, hm, hQ⟩ := h
     refine ⟨_, pss_cons (ps_ret (pe_and (pe_callB (cl_isi (K := K)) (by rfl) B.isinstance (by decide +kernel) (pa_cons (pv 0) (pa_cons (pe_bltn (v := .ty "int") (by rfl) B.int (by decide +kernel) rfl) pa_nil))) (pe_one (pe_not (pe_callB (cl_isi (K := K)) (by rfl) B.isinstance (by decide +kernel) (pa_cons (pv 0) (pa_cons (pe_bltn (v := .ty "bool") (by rfl) B.bool (by decide +kernel) rfl) pa_nil))))))) pss_nil, ?_⟩
     have c0 : Chg ([] : List Addr) H0 H0 := Chg.refl H0
     unfold Mi.m_l_int_1 at hm
     refine q_ret ?_
     refine c_val (val_andV (val_isiO (n := "int") (m := "int") (b := true) tyr_int r0 (val_var rfl) (by decide +kernel) (by decide +kernel)) (fun _ => (val_notV (val_isiO (n := "int") (m := "bool") (b := false) tyr_int r0 (val_var rfl) (by decide +kernel) (by decide +kernel))))) ?_
     obtain rfl := Option.some.inj hm
     exact hQ _ c0 
   ·
     obtain ⟨v0, d0, r, rfl, r0, hm, hQ⟩ := h
     refine ⟨_, pss_cons (ps_ret (pe_and (pe_callB (cl_isi (K := K)) (by rfl) B.isinstance (by decide +kernel) (pa_cons (pv 0) (pa_cons (pe_bltn (v := .ty "int") (by rfl) B.int (by decide +kernel) rfl) pa_nil))) (pe_one (pe_not (pe_callB (cl_isi (K := K)) (by rfl) B.isinstance (by decide +kernel) (pa_cons (pv 0) (pa_cons (pe_bltn (v := .ty "bool") (by rfl) B.bool (by decide +kernel) rfl) pa_nil))))))) pss_nil, ?_⟩
     have c0 : Chg ([] : List Addr) H0 H0 := Chg.refl H0
     unfold Mi.m_l_int_2 at hm
     refine q_ret ?_
     refine c_val (val_andV (val_isi2 (m := "int") (b1 := true) (b2 := true) r0 (val_var rfl) (by decide +kernel) (by decide +kernel)) (fun _ => (val_notV (val_isi2 (m := "bool") (b1 := false) (b2 := true) r0 (val_var rfl) (by decide +kernel) (by decide +kernel))))) ?_
     obtain rfl := Option.some.inj hm
     exact hQ _ c0 
   ·
     obtain ⟨v0, d0, r, rfl, r0, hm, hQ⟩ := h
     refine ⟨_, pss_cons (ps_ret (pe_and (pe_callB (cl_isi (K := K)) (by rfl) B.isinstance (by decide +kernel) (pa_cons (pv 0) (pa_cons (pe_bltn (v := .ty "int") (by rfl) B.int (by decide +kernel) rfl) pa_nil))) (pe_one (pe_not (pe_callB (cl_isi (K := K)) (by rfl) B.isinstance (by decide +kernel) (pa_cons (pv 0) (pa_cons (pe_bltn (v := .ty "bool") (by rfl) B.bool (by decide +kernel) rfl) pa_nil))))))) pss_nil, ?_⟩
     have c0 : Chg ([] : List Addr) H0 H0 := Chg.refl H0
     unfold Mi.m_l_int_3 at hm
     refine q_ret ?_
     refine c_val (val_andV (val_isi5 (m := "int") (b1 := true) (b2 := false) (b3 := true) (b4 := false) r0 (val_var rfl) (by decide +kernel) (by decide +kernel) (by decide +kernel) (by decide +kernel)) (fun _ => (val_notV (val_isi5 (m := "bool") (b1 := false) (b2 := false) (b3 := true) (b4 := false) r0 (val_var rfl) (by decide +kernel) (by decide +kernel) (by decide +kernel) (by decide +kernel))))) ?_
     obtain rfl := Option.some.inj hm
     exact hQ _ c0 
theorem sc_l_some : FnScope ["_law_hand_here", "_law_size", "_law_share", "_law_zone_here", "_law_place"] ["_law_hand_here", "_law_size", "_law_share"] (defScope s_l_some) := ⟨rfl, rfl, rfl, by decide +kernel, rfl, by decide +kernel, by decide +kernel⟩
def sp_l_some (K : PySem.W.Frag) : Sp := fun vs H Q _ => ∃ (v0 : V) (F0 : List Addr) (d0 : (List Int)) (d1 : Int) (d2 : Int) (r : ((List Int) × (List Int))), vs = [v0, (.int d1), (.int d2)] ∧ (yLst yInt).rep K H F0 v0 d0 ∧ Mi.m_l_some d0 d1 d2 = some r ∧ ∀ v H' F, Chg (F0) H H' → (yLst yInt).rep K H' F v r.1 → (∀ a ∈ F, H a = none) → (yLst yInt).rep K H' F0 v0 r.2 → Q v H'
theorem ok_l_some (B : Bi mg) (CN : Cs w K mg) (D : Dfn K mg "_law_some" s_l_some) (C_l_pick : Cal P w K mg "_law_pick" ["_law_hand_here", "_law_size"] 1 (sp_l_pick K)) : Cal P w K mg "_law_some" ["_law_hand_here", "_law_size", "_law_share"] 2 (sp_l_some K) := by
 obtain ⟨f, fd, F, g⟩ := D.ex
 refine ⟨f, fd, g, F.kp, bindsF F (fun _ _ _ _ _ _ us hl => match us, hl with | [_, _, _], _ => rfl), fun base => F.ok sc_l_some (fun vs H Q E h => ?_) (fun cdv A outer s H0 vs Q E hr h => ?_)⟩
 · obtain ⟨v0, F0, d0, d1, d2, r, rfl, r0, hm, hQ⟩ := h; rfl
 ·
   obtain ⟨v0, F0, d0, d1, d2, r, rfl, r0, hm, hQ⟩ := h
   refine ⟨_, pss_cons (ps_set (i := 3) sc_l_some.nd rfl (.inl rfl) (pe_lst pa_nil))
     (pss_cons (ps_for PassesOwn.never rfl (pi_range1 (by rfl) B.range (pa_cons (pv 1) pa_nil)) (pg_name (i := 4) sc_l_some.nd rfl (.inl rfl)) (pss_cons (ps_if (pt_cmpR op_eq (pe_cc C_l_pick hr (pa_cons (pv 0) (pa_cons (pv 2) pa_nil))) pe_int (nomark _)) (pss_cons (ps_expr (pe_bm PySem.F.plainAttrs_list PySem.F.slot_list_append PySem.F.type_list_append mt_append (pv 3) (pa_cons (pv 4) pa_nil)))
     (pss_nil)) (pss_nil))
     (pss_nil)))
     (pss_cons (ps_ret (pv 3)) pss_nil)), ?_⟩
   have c0 : Chg (F0) H0 H0 := Chg.refl H0
   unfold Mi.m_l_some at hm
   refine q_asg ?_
   refine w_lst ?_
   refine w_args va_nil ?_
   refine e_lst (K := K) (τ := yInt) (by exact Nat.le_of_ble_eq_true rfl) .nil fun p4 H8 np7 c5 r6 => ?_
   have d9 : Dj F0 [p4] := Ty.nin r0 np7
   have n10 : ∀ a ∈ [p4], H0 a = none := one_fresh (c0.dom p4 np7)
   have r0 := Ty.ex r0 c5
   have c0 := c0.trans c5.none
   refine g_name (σ' := [some v0, some (.int d1), some (.int d2), some (.ref p4), none]) rfl ?_
   refine q_for ?_
   refine w_iRng1 ?_
   refine w_args (va_cons (val_var rfl) va_nil) ?_
   obtain ⟨g11, hg11, hm⟩ := Mi.bnd hm
   obtain ⟨e12, he12, hm⟩ := Mi.bnd hm
   refine l_rng1 hg11 (fun i σ' H' => ∃ (s13 : ((List Int) × (List Int))) (y14 : Option V), σ' = [some v0, some (.int d1), some (.int d2), some (.ref p4), y14] ∧ Chg (F0) H0 H' ∧ (yLst yInt).rep K H' F0 v0 s13.1 ∧ (yLst yInt).rep K H' [p4] (.ref p4) s13.2 ∧ Mi.forN (Mi.m_l_some_b1 d2) s13 (List.drop i g11) = some e12) ⟨(d0, ([] : (List Int))), none, rfl, c0, r0, r6, he12⟩ (fun i17 x16 σ' H' hx15 hp => ?_) (fun σ' H' hp => ?_)
   ·
     obtain ⟨s13, y14, rfl, c0, r0, r6, hle12⟩ := hp
     obtain ⟨_, hbe12, hle12⟩ := Mi.forN_go hle12 hx15
     unfold Mi.m_l_some_b1 at hbe12
     refine g_name (σ' := [some v0, some (.int d1), some (.int d2), some (.ref p4), some (.int x16)]) rfl ?_
     obtain ⟨s18, hs18, hbe12⟩ := Mi.bnd hbe12
     refine s_join (R := fun σ' H' => σ' = [some v0, some (.int d1), some (.int d2), some (.ref p4), some (.int x16)] ∧ Chg (F0) H0 H' ∧ (yLst yInt).rep K H' F0 v0 s18.1 ∧ (yLst yInt).rep K H' [p4] (.ref p4) s18.2) (fun nx kx => ?_) (fun σ' H' hj => ?_)
     ·
       refine w_ifS ?_
       refine w_test ?_
       refine w_op ?_
       refine w_call ?_
       refine w_args (va_cons (val_var rfl) (va_cons (val_var rfl) va_nil)) ?_
       obtain ⟨q19, hq19, hs18⟩ := Mi.bnd hs18
       refine ⟨v0, F0, s13.1, d2, q19, rfl, r0, hq19, fun H21 c20 r0 => ?_⟩
       have r6 := Ty.chg r6 c20 d9.symm
       have c0 := c0.join c20 (fun a h => .inl (h))
       refine c_val val_c ?_
       refine w_eqI ?_
       refine ⟨_, rfl, ?_⟩
       refine c_if (fun hb => ?_) (fun hb => ?_)
       ·
         replace hs18 := Mi.ifT hb hs18
         refine q_drop (w_bm (c_val (val_var rfl) ⟨tyv_lst r6, ?_⟩))
         refine w_args (va_cons (val_var rfl) va_nil) ?_
         obtain ⟨x22, hx22, hs18⟩ := Mi.bnd hs18
         refine m_app r6 yInt_i hx22 fun H24 c23 r6 => ?_
         have r0 := Ty.chg r0 c23 d9
         have c0 := c0.join c23 (fun a h => .inr (n10 a h))
         refine w_nextJ ?_
         obtain rfl := Option.some.inj hs18
         exact kx _ _ ⟨rfl, c0, r0, r6⟩
       ·
         replace hs18 := Mi.ifF hb hs18
         refine w_nextJ ?_
         obtain rfl := Option.some.inj hs18
         exact kx _ _ ⟨rfl, c0, r0, r6⟩
     obtain ⟨rfl, c0, r0, r6⟩ := hj
     refine w_nextJ ?_
     obtain rfl := Option.some.inj hbe12
     exact ⟨_, (some (.int x16)), rfl, c0, r0, r6, hle12⟩
   obtain ⟨s13, y14, rfl, c0, r0, r6, hle12⟩ := hp
   obtain rfl := Mi.forN_end hle12
   refine q_ret ?_
   refine c_val (val_var rfl) ?_
   obtain rfl := Option.some.inj hm
   exact hQ _ _ _ c0 r6 n10 r0
theorem sc_l_alike_v2 : FnScope ["_law_told", "_law_due", "_law_k"] ["_law_told", "_law_due"] (defScope s_l_alike_v2) := ⟨rfl, rfl, rfl, by decide +kernel, rfl, by decide +kernel, by decide +kernel⟩
def sp_l_alike_v2 (K : PySem.W.Frag) : Sp := fun vs H Q _ => ∃ (v0 : V) (d0 : (Int ⊕ Bool)) (v1 : V) (d1 : (Int ⊕ Bool)) (r : Bool), vs = [v0, v1] ∧ (ySum yInt yBool).rep K H [] v0 d0 ∧ (ySum yInt yBool).rep K H [] v1 d1 ∧ Mi.m_l_alike_v2 d0 d1 = some r ∧ ∀ H', Chg ([]) H H' → Q (.bl r) H'
theorem ok_l_alike_v2 (B : Bi mg) (CN : Cs w K mg) (D : Dfn K mg "_law_alike" s_l_alike_v2) (C_l_int : Cal P w K mg "_law_int" ["_law_x"] 1 (sp_l_int K)) : Cal P w K mg "_law_alike" ["_law_told", "_law_due"] 2 (sp_l_alike_v2 K) := by
 obtain ⟨f, fd, F, g⟩ := D.ex
 refine ⟨f, fd, g, F.kp, bindsF F (fun _ _ _ _ _ _ us hl => match us, hl with | [_, _], _ => rfl), fun base => F.ok sc_l_alike_v2 (fun vs H Q E h => ?_) (fun cdv A outer s H0 vs Q E hr h => ?_)⟩
 · obtain ⟨v0, d0, v1, d1, r, rfl, r0, r1, hm, hQ⟩ := h; rfl
 ·
   obtain ⟨v0, d0, v1, d1, r, rfl, r0, r1, hm, hQ⟩ := h
   refine ⟨_, pss_cons (ps_if (pt_cmpR op_isN1 (pv 1) pe_non (nomark _)) (pss_cons ps_never pss_nil) pss_nil)
     (pss_cons (ps_if (pt_val (pe_callB (cl_isi (K := K)) (by rfl) B.isinstance (by decide +kernel) (pa_cons (pv 1) (pa_cons (pe_bltn (v := .ty "bool") (by rfl) B.bool (by decide +kernel) rfl) pa_nil)))) (pss_cons (ps_ret (pe_and (pe_callB (cl_isi (K := K)) (by rfl) B.isinstance (by decide +kernel) (pa_cons (pv 0) (pa_cons (pe_bltn (v := .ty "bool") (by rfl) B.bool (by decide +kernel) rfl) pa_nil))) (pe_one (pe_cmpR op_eq (pv 0) (pv 1) (nomark _))))) pss_nil) (pss_nil))
     (pss_cons (ps_if (pt_val (pe_callB (cl_isi (K := K)) (by rfl) B.isinstance (by decide +kernel) (pa_cons (pv 1) (pa_cons (pe_bltn (v := .ty "int") (by rfl) B.int (by decide +kernel) rfl) pa_nil)))) (pss_cons (ps_ret (pe_and (pe_cc C_l_int hr (pa_cons (pv 0) pa_nil)) (pe_one (pe_cmpR op_eq (pv 0) (pv 1) (nomark _))))) pss_nil) (pss_nil))
     (pss_cons (ps_if (pt_val (pe_callB (cl_isi (K := K)) (by rfl) B.isinstance (by decide +kernel) (pa_cons (pv 1) (pa_cons (pe_bltn (v := .ty "str") (by rfl) B.str (by decide +kernel) rfl) pa_nil)))) (pss_cons ps_never pss_nil) pss_nil)
     (pss_cons ps_never (pss_cons ps_never (pss_cons ps_never (pss_cons ps_never (pss_cons ps_never pss_nil)))))))), ?_⟩
   have c0 : Chg ([] : List Addr) H0 H0 := Chg.refl H0
   unfold Mi.m_l_alike_v2 at hm
   refine q_if (ans_t (val_isN (opt_i (nn_2 r1) r1) (val_var rfl))) (fun hb => nomatch hb) (fun hb => ?_)
   refine w_fall ?_
   refine q_if (ans_B (val_isi2 (m := "bool") (b1 := false) (b2 := true) r1 (val_var rfl) (by decide +kernel) (by decide +kernel))) (fun hb => ?_) (fun hb => ?_)
   ·
     replace hm := Mi.ifT hb hm
     refine q_ret ?_
     obtain ⟨b3, hb3, hm⟩ := Mi.bnd hm
     refine j_te (.bl b3) (R := fun H' => Chg ([] : List Addr) H0 H' ∧ (ySum yInt yBool).rep K H' [] v0 d0 ∧ (ySum yInt yBool).rep K H' [] v1 d1) (fun Q' kq => ?_) (fun H' hj => ?_)
     ·
       refine w_andV ?_
       refine c_val (val_isi2 (m := "bool") (b1 := false) (b2 := true) r0 (val_var rfl) (by decide +kernel) (by decide +kernel)) ?_
       refine ⟨_, rfl, ?_⟩
       refine c_if (fun hb => ?_) (fun hb => ?_)
       rotate_left
       ·
         replace hb3 := Mi.ifF hb hb3
         obtain rfl := Option.some.inj hb3
         exact kq _ ⟨c0, r0, r1⟩
       replace hb3 := Mi.ifT hb hb3
       refine w_op ?_
       refine c_val (val_var rfl) ?_
       refine c_val (val_var rfl) ?_
       obtain ⟨b4, hb4, hb3⟩ := Mi.bnd hb3
       refine w_eq2 r0 r1 hb4 ?_
       obtain rfl := Option.some.inj hb3
       exact kq _ ⟨c0, r0, r1⟩
     obtain ⟨c0, r0, r1⟩ := hj
     obtain rfl := Option.some.inj hm
     exact hQ _ c0 
   replace hm := Mi.ifF hb hm
   refine w_fall ?_
   refine q_if (ans_B (val_isi2 (m := "int") (b1 := true) (b2 := true) r1 (val_var rfl) (by decide +kernel) (by decide +kernel))) (fun hb => ?_) (fun hb => ?_)
   ·
     replace hm := Mi.ifT hb hm
     refine q_ret ?_
     obtain ⟨b5, hb5, hm⟩ := Mi.bnd hm
     refine j_te (.bl b5) (R := fun H' => Chg ([] : List Addr) H0 H' ∧ (ySum yInt yBool).rep K H' [] v0 d0 ∧ (ySum yInt yBool).rep K H' [] v1 d1) (fun Q' kq => ?_) (fun H' hj => ?_)
     ·
       refine w_andV ?_
       refine w_call ?_
       refine w_args (va_cons (val_var rfl) va_nil) ?_
       obtain ⟨q6, hq6, hb5⟩ := Mi.bnd hb5
       refine Or.inr (Or.inr (Or.inl ⟨v0, d0, q6, rfl, r0, hq6, fun H8 c7  => ?_⟩))
       have r0 := Ty.fz r0 c7
       have r1 := Ty.fz r1 c7
       have c0 := c0.trans c7.none
       refine ⟨_, rfl, ?_⟩
       refine c_if (fun hb => ?_) (fun hb => ?_)
       rotate_left
       ·
         replace hb5 := Mi.ifF hb hb5
         obtain rfl := Option.some.inj hb5
         exact kq _ ⟨c0, r0, r1⟩
       replace hb5 := Mi.ifT hb hb5
       refine w_op ?_
       refine c_val (val_var rfl) ?_
       refine c_val (val_var rfl) ?_
       obtain ⟨b9, hb9, hb5⟩ := Mi.bnd hb5
       refine w_eq2 r0 r1 hb9 ?_
       obtain rfl := Option.some.inj hb5
       exact kq _ ⟨c0, r0, r1⟩
     obtain ⟨c0, r0, r1⟩ := hj
     obtain rfl := Option.some.inj hm
     exact hQ _ c0 
   replace hm := Mi.ifF hb hm
   refine w_fall ?_
   refine q_if (ans_B (val_eqv (isi2_ff _) (val_isi2 (m := "str") (b1 := false) (b2 := false) r1 (val_var rfl) (by decide +kernel) (by decide +kernel)))) (fun hb => nomatch hb) (fun hb => ?_)
   refine w_fall ?_
   cases hm
theorem sc_l_alike_v5 : FnScope ["_law_told", "_law_due", "_law_k"] ["_law_told", "_law_due"] (defScope s_l_alike_v5) := ⟨rfl, rfl, rfl, by decide +kernel, rfl, by decide +kernel, by decide +kernel⟩
def sp_l_alike_v5 (K : PySem.W.Frag) : Sp := fun vs H Q _ => ∃ (v0 : V) (d0 : (Int ⊕ (List Nat) ⊕ Bool ⊕ (List Int) ⊕ (List Bool))) (v1 : V) (d1 : (Int ⊕ (List Nat) ⊕ Bool ⊕ (List Int) ⊕ (List Bool))) (r : Bool), vs = [v0, v1] ∧ (ySum yInt (ySum yStr (ySum yBool (ySum (yTupL yInt) (yTupL yBool))))).rep K H [] v0 d0 ∧ (ySum yInt (ySum yStr (ySum yBool (ySum (yTupL yInt) (yTupL yBool))))).rep K H [] v1 d1 ∧ Mi.m_l_alike_v5 d0 d1 = some r ∧ ∀ H', Chg ([]) H H' → Q (.bl r) H'
theorem ok_l_alike_v5 (B : Bi mg) (CN : Cs w K mg) (D : Dfn K mg "_law_alike" s_l_alike_v5) (C_l_int : Cal P w K mg "_law_int" ["_law_x"] 1 (sp_l_int K)) (C_l_alike_v2 : Cal P w K mg "_law_alike" ["_law_told", "_law_due"] 2 (sp_l_alike_v2 K)) : Cal P w K mg "_law_alike" ["_law_told", "_law_due"] 3 (sp_l_alike_v5 K) := by
 obtain ⟨f, fd, F, g⟩ := D.ex
 refine ⟨f, fd, g, F.kp, bindsF F (fun _ _ _ _ _ _ us hl => match us, hl with | [_, _], _ => rfl), fun base => F.ok sc_l_alike_v5 (fun vs H Q E h => ?_) (fun cdv A outer s H0 vs Q E hr h => ?_)⟩
 · obtain ⟨v0, d0, v1, d1, r, rfl, r0, r1, hm, hQ⟩ := h; rfl
 ·
   obtain ⟨v0, d0, v1, d1, r, rfl, r0, r1, hm, hQ⟩ := h
   refine ⟨_, pss_cons (ps_if (pt_cmpR op_isN1 (pv 1) pe_non (nomark _)) (pss_cons ps_never pss_nil) pss_nil)
     (pss_cons (ps_if (pt_val (pe_callB (cl_isi (K := K)) (by rfl) B.isinstance (by decide +kernel) (pa_cons (pv 1) (pa_cons (pe_bltn (v := .ty "bool") (by rfl) B.bool (by decide +kernel) rfl) pa_nil)))) (pss_cons (ps_ret (pe_and (pe_callB (cl_isi (K := K)) (by rfl) B.isinstance (by decide +kernel) (pa_cons (pv 0) (pa_cons (pe_bltn (v := .ty "bool") (by rfl) B.bool (by decide +kernel) rfl) pa_nil))) (pe_one (pe_cmpR op_eq (pv 0) (pv 1) (nomark _))))) pss_nil) (pss_nil))
     (pss_cons (ps_if (pt_val (pe_callB (cl_isi (K := K)) (by rfl) B.isinstance (by decide +kernel) (pa_cons (pv 1) (pa_cons (pe_bltn (v := .ty "int") (by rfl) B.int (by decide +kernel) rfl) pa_nil)))) (pss_cons (ps_ret (pe_and (pe_cc C_l_int hr (pa_cons (pv 0) pa_nil)) (pe_one (pe_cmpR op_eq (pv 0) (pv 1) (nomark _))))) pss_nil) (pss_nil))
     (pss_cons (ps_if (pt_val (pe_callB (cl_isi (K := K)) (by rfl) B.isinstance (by decide +kernel) (pa_cons (pv 1) (pa_cons (pe_bltn (v := .ty "str") (by rfl) B.str (by decide +kernel) rfl) pa_nil)))) (pss_cons (ps_ret (pe_and (pe_callB (cl_isi (K := K)) (by rfl) B.isinstance (by decide +kernel) (pa_cons (pv 0) (pa_cons (pe_bltn (v := .ty "str") (by rfl) B.str (by decide +kernel) rfl) pa_nil))) (pe_one (pe_cmpR op_eq (pv 0) (pv 1) (nomark _))))) pss_nil) (pss_nil))
     (pss_cons (ps_if (PW.pt (pw_and (pt_val (pe_callB (cl_isi (K := K)) (by rfl) B.isinstance (by decide +kernel) (pa_cons (pv 1) (pa_cons (pe_bltn (v := .ty "list") (by rfl) B.list (by decide +kernel) rfl) pa_nil)))) (pw_and1 (pt_not (pt_val (pe_callB (cl_isi (K := K)) (by rfl) B.isinstance (by decide +kernel) (pa_cons (pv 0) (pa_cons (pe_bltn (v := .ty "list") (by rfl) B.list (by decide +kernel) rfl) pa_nil)))))))) (pss_cons (ps_ret pe_bl) pss_nil) (pss_nil))
     (pss_cons (ps_if (PW.pt (pw_and (pt_val (pe_callB (cl_isi (K := K)) (by rfl) B.isinstance (by decide +kernel) (pa_cons (pv 1) (pa_cons (pe_bltn (v := .ty "tuple") (by rfl) B.tuple (by decide +kernel) rfl) pa_nil)))) (pw_and1 (pt_not (pt_val (pe_callB (cl_isi (K := K)) (by rfl) B.isinstance (by decide +kernel) (pa_cons (pv 0) (pa_cons (pe_bltn (v := .ty "tuple") (by rfl) B.tuple (by decide +kernel) rfl) pa_nil)))))))) (pss_cons (ps_ret pe_bl) pss_nil) (pss_nil))
     (pss_cons (ps_if (pt_cmpR op_ne (pe_callB (cl_len (K := K)) (by rfl) B.len PySem.boot_len (pa_cons (pv 0) pa_nil)) (pe_callB (cl_len (K := K)) (by rfl) B.len PySem.boot_len (pa_cons (pv 1) pa_nil)) (nomark _)) (pss_cons (ps_ret pe_bl) pss_nil) (pss_nil))
     (pss_cons (ps_for PassesOwn.never rfl (pi_range1 (by rfl) B.range (pa_cons (pe_callB (cl_len (K := K)) (by rfl) B.len PySem.boot_len (pa_cons (pv 1) pa_nil)) pa_nil)) (pg_name (i := 2) sc_l_alike_v5.nd rfl (.inl rfl)) (pss_cons (ps_if (pt_not (pt_val (pe_cc C_l_alike_v2 hr (pa_cons (pe_ix (ix_t (K := K)) (pv 0) (pv 2) (fun _ _ => rfl)) (pa_cons (pe_ix (ix_t (K := K)) (pv 1) (pv 2) (fun _ _ => rfl)) pa_nil))))) (pss_cons (ps_ret pe_bl) pss_nil) (pss_nil))
     (pss_nil)))
     (pss_cons (ps_ret pe_bl) pss_nil)))))))), ?_⟩
   have c0 : Chg ([] : List Addr) H0 H0 := Chg.refl H0
   unfold Mi.m_l_alike_v5 at hm
   refine q_if (ans_t (val_isN (opt_i (nn_5 r1) r1) (val_var rfl))) (fun hb => nomatch hb) (fun hb => ?_)
   refine w_fall ?_
   refine q_if (ans_B (val_isi5 (m := "bool") (b1 := false) (b2 := false) (b3 := true) (b4 := false) r1 (val_var rfl) (by decide +kernel) (by decide +kernel) (by decide +kernel) (by decide +kernel))) (fun hb => ?_) (fun hb => ?_)
   ·
     replace hm := Mi.ifT hb hm
     refine q_ret ?_
     obtain ⟨b3, hb3, hm⟩ := Mi.bnd hm
     refine j_te (.bl b3) (R := fun H' => Chg ([] : List Addr) H0 H' ∧ (ySum yInt (ySum yStr (ySum yBool (ySum (yTupL yInt) (yTupL yBool))))).rep K H' [] v0 d0 ∧ (ySum yInt (ySum yStr (ySum yBool (ySum (yTupL yInt) (yTupL yBool))))).rep K H' [] v1 d1) (fun Q' kq => ?_) (fun H' hj => ?_)
     ·
       refine w_andV ?_
       refine c_val (val_isi5 (m := "bool") (b1 := false) (b2 := false) (b3 := true) (b4 := false) r0 (val_var rfl) (by decide +kernel) (by decide +kernel) (by decide +kernel) (by decide +kernel)) ?_
       refine ⟨_, rfl, ?_⟩
       refine c_if (fun hb => ?_) (fun hb => ?_)
       rotate_left
       ·
         replace hb3 := Mi.ifF hb hb3
         obtain rfl := Option.some.inj hb3
         exact kq _ ⟨c0, r0, r1⟩
       replace hb3 := Mi.ifT hb hb3
       refine w_op ?_
       refine c_val (val_var rfl) ?_
       refine c_val (val_var rfl) ?_
       obtain ⟨b4, hb4, hb3⟩ := Mi.bnd hb3
       refine w_eq5 r0 r1 hb4 ?_
       obtain rfl := Option.some.inj hb3
       exact kq _ ⟨c0, r0, r1⟩
     obtain ⟨c0, r0, r1⟩ := hj
     obtain rfl := Option.some.inj hm
     exact hQ _ c0 
   replace hm := Mi.ifF hb hm
   refine w_fall ?_
   refine q_if (ans_B (val_isi5 (m := "int") (b1 := true) (b2 := false) (b3 := true) (b4 := false) r1 (val_var rfl) (by decide +kernel) (by decide +kernel) (by decide +kernel) (by decide +kernel))) (fun hb => ?_) (fun hb => ?_)
   ·
     replace hm := Mi.ifT hb hm
     refine q_ret ?_
     obtain ⟨b5, hb5, hm⟩ := Mi.bnd hm
     refine j_te (.bl b5) (R := fun H' => Chg ([] : List Addr) H0 H' ∧ (ySum yInt (ySum yStr (ySum yBool (ySum (yTupL yInt) (yTupL yBool))))).rep K H' [] v0 d0 ∧ (ySum yInt (ySum yStr (ySum yBool (ySum (yTupL yInt) (yTupL yBool))))).rep K H' [] v1 d1) (fun Q' kq => ?_) (fun H' hj => ?_)
     ·
       refine w_andV ?_
       refine w_call ?_
       refine w_args (va_cons (val_var rfl) va_nil) ?_
       obtain ⟨q6, hq6, hb5⟩ := Mi.bnd hb5
       refine Or.inr (Or.inr (Or.inr (⟨v0, d0, q6, rfl, r0, hq6, fun H8 c7  => ?_⟩)))
       have r0 := Ty.fz r0 c7
       have r1 := Ty.fz r1 c7
       have c0 := c0.trans c7.none
       refine ⟨_, rfl, ?_⟩
       refine c_if (fun hb => ?_) (fun hb => ?_)
       rotate_left
       ·
         replace hb5 := Mi.ifF hb hb5
         obtain rfl := Option.some.inj hb5
         exact kq _ ⟨c0, r0, r1⟩
       replace hb5 := Mi.ifT hb hb5
       refine w_op ?_
       refine c_val (val_var rfl) ?_
       refine c_val (val_var rfl) ?_
       obtain ⟨b9, hb9, hb5⟩ := Mi.bnd hb5
       refine w_eq5 r0 r1 hb9 ?_
       obtain rfl := Option.some.inj hb5
       exact kq _ ⟨c0, r0, r1⟩
     obtain ⟨c0, r0, r1⟩ := hj
     obtain rfl := Option.some.inj hm
     exact hQ _ c0 
   replace hm := Mi.ifF hb hm
   refine w_fall ?_
   refine q_if (ans_B (val_isi5 (m := "str") (b1 := false) (b2 := true) (b3 := false) (b4 := false) r1 (val_var rfl) (by decide +kernel) (by decide +kernel) (by decide +kernel) (by decide +kernel))) (fun hb => ?_) (fun hb => ?_)
   ·
     replace hm := Mi.ifT hb hm
     refine q_ret ?_
     obtain ⟨b10, hb10, hm⟩ := Mi.bnd hm
     refine j_te (.bl b10) (R := fun H' => Chg ([] : List Addr) H0 H' ∧ (ySum yInt (ySum yStr (ySum yBool (ySum (yTupL yInt) (yTupL yBool))))).rep K H' [] v0 d0 ∧ (ySum yInt (ySum yStr (ySum yBool (ySum (yTupL yInt) (yTupL yBool))))).rep K H' [] v1 d1) (fun Q' kq => ?_) (fun H' hj => ?_)
     ·
       refine w_andV ?_
       refine c_val (val_isi5 (m := "str") (b1 := false) (b2 := true) (b3 := false) (b4 := false) r0 (val_var rfl) (by decide +kernel) (by decide +kernel) (by decide +kernel) (by decide +kernel)) ?_
       refine ⟨_, rfl, ?_⟩
       refine c_if (fun hb => ?_) (fun hb => ?_)
       rotate_left
       ·
         replace hb10 := Mi.ifF hb hb10
         obtain rfl := Option.some.inj hb10
         exact kq _ ⟨c0, r0, r1⟩
       replace hb10 := Mi.ifT hb hb10
       refine w_op ?_
       refine c_val (val_var rfl) ?_
       refine c_val (val_var rfl) ?_
       obtain ⟨b11, hb11, hb10⟩ := Mi.bnd hb10
       refine w_eq5 r0 r1 hb11 ?_
       obtain rfl := Option.some.inj hb10
       exact kq _ ⟨c0, r0, r1⟩
     obtain ⟨c0, r0, r1⟩ := hj
     obtain rfl := Option.some.inj hm
     exact hQ _ c0 
   replace hm := Mi.ifF hb hm
   refine w_fall ?_
   refine q_if (ans_andB (ans_B (val_eqv (isi5_ff _) (val_isi5 (m := "list") (b1 := false) (b2 := false) (b3 := false) (b4 := false) r1 (val_var rfl) (by decide +kernel) (by decide +kernel) (by decide +kernel) (by decide +kernel)))) (fun _ => (ans_N (ans_B (val_eqv (isi5_ff _) (val_isi5 (m := "list") (b1 := false) (b2 := false) (b3 := false) (b4 := false) r0 (val_var rfl) (by decide +kernel) (by decide +kernel) (by decide +kernel) (by decide +kernel))))))) (fun hb => ?_) (fun hb => ?_)
   ·
     replace hm := Mi.ifT hb hm
     refine q_ret ?_
     refine c_val val_c ?_
     obtain rfl := Option.some.inj hm
     exact hQ _ c0 
   replace hm := Mi.ifF hb hm
   refine w_fall ?_
   refine q_if (ans_andB (ans_B (val_isi5 (m := "tuple") (b1 := false) (b2 := false) (b3 := false) (b4 := true) r1 (val_var rfl) (by decide +kernel) (by decide +kernel) (by decide +kernel) (by decide +kernel))) (fun _ => (ans_N (ans_B (val_isi5 (m := "tuple") (b1 := false) (b2 := false) (b3 := false) (b4 := true) r0 (val_var rfl) (by decide +kernel) (by decide +kernel) (by decide +kernel) (by decide +kernel)))))) (fun hb => ?_) (fun hb => ?_)
   ·
     replace hm := Mi.ifT hb hm
     refine q_ret ?_
     refine c_val val_c ?_
     obtain rfl := Option.some.inj hm
     exact hQ _ c0 
   replace hm := Mi.ifF hb hm
   refine w_fall ?_
   obtain ⟨x14, hx14, hm⟩ := Mi.bnd hm
   obtain ⟨x15, hx15, hm⟩ := Mi.bnd hm
   refine q_if (ans_t (val_neI (val_len5 r0 hx14 (val_var rfl)) (val_len5 r1 hx15 (val_var rfl)))) (fun hb => ?_) (fun hb => ?_)
   ·
     replace hm := Mi.ifT hb hm
     refine q_ret ?_
     refine c_val val_c ?_
     obtain rfl := Option.some.inj hm
     exact hQ _ c0 
   replace hm := Mi.ifF hb hm
   refine w_fall ?_
   refine q_for ?_
   refine w_iRng1 ?_
   obtain ⟨x16, hx16, hm⟩ := Mi.bnd hm
   refine w_args (va_cons (val_len5 r1 hx16 (val_var rfl)) va_nil) ?_
   obtain ⟨g17, hg17, hm⟩ := Mi.bnd hm
   obtain ⟨e18, he18, hm⟩ := Mi.bnd hm
   refine l_rng1 hg17 (fun i σ' H' => ∃ (s19 : Unit) (y20 : Option V), σ' = [some v0, some v1, y20] ∧ Chg ([] : List Addr) H0 H' ∧ (ySum yInt (ySum yStr (ySum yBool (ySum (yTupL yInt) (yTupL yBool))))).rep K H' [] v0 d0 ∧ (ySum yInt (ySum yStr (ySum yBool (ySum (yTupL yInt) (yTupL yBool))))).rep K H' [] v1 d1 ∧ Mi.forR (Mi.m_l_alike_v5_b1 d0 d1) s19 (List.drop i g17) = some e18) ⟨(), none, rfl, c0, r0, r1, he18⟩ (fun i23 x22 σ' H' hx21 hp => ?_) (fun σ' H' hp => ?_)
   ·
     obtain ⟨s19, y20, rfl, c0, r0, r1, hle18⟩ := hp
     obtain ⟨o24, hbe18, hore18⟩ := Mi.forR_go hle18 hx21
     unfold Mi.m_l_alike_v5_b1 at hbe18
     refine g_name (σ' := [some v0, some v1, some (.int x22)]) rfl ?_
     refine q_ifS ?_
     refine w_not ?_
     refine w_B ?_
     refine w_call ?_
     obtain ⟨x25, hx25, hbe18⟩ := Mi.bnd hbe18
     obtain ⟨u26, r27, ku28⟩ := itm_5 r0 hx25
     obtain ⟨x29, hx29, hbe18⟩ := Mi.bnd hbe18
     obtain ⟨u30, r31, ku32⟩ := itm_5 r1 hx29
     refine w_args (va_cons (ku28 (val_var rfl) (val_var rfl)) (va_cons (ku32 (val_var rfl) (val_var rfl)) va_nil)) ?_
     obtain ⟨q33, hq33, hbe18⟩ := Mi.bnd hbe18
     refine ⟨u26, x25, u30, x29, q33, rfl, r27, r31, hq33, fun H35 c34  => ?_⟩
     have r0 := Ty.fz r0 c34
     have r1 := Ty.fz r1 c34
     have c0 := c0.trans c34.none
     refine ⟨_, rfl, ?_⟩
     refine c_if (fun hb => ?_) (fun hb => ?_)
     ·
       replace hbe18 := Mi.ifT hb hbe18
       refine q_ret ?_
       refine c_val val_c ?_
       obtain rfl := Option.some.inj hbe18
       obtain rfl := Mi.or_inl hore18
       obtain rfl := Option.some.inj (Mi.orR_inl hm)
       exact hQ _ c0 
     replace hbe18 := Mi.ifF hb hbe18
     refine w_fall ?_
     refine w_nextJ ?_
     obtain rfl := Option.some.inj hbe18
     replace hore18 := Mi.or_inr hore18
     exact ⟨_, (some (.int x22)), rfl, c0, r0, r1, hore18⟩
   obtain ⟨s19, y20, rfl, c0, r0, r1, hle18⟩ := hp
   obtain rfl := Mi.forR_end hle18
   replace hm := Mi.orR_inr hm
   refine q_ret ?_
   refine c_val val_c ?_
   obtain rfl := Option.some.inj hm
   exact hQ _ c0 
theorem sc_l_alike_v1 : FnScope ["_law_told", "_law_due", "_law_k"] ["_law_told", "_law_due"] (defScope s_l_alike_v1) := ⟨rfl, rfl, rfl, by decide +kernel, rfl, by decide +kernel, by decide +kernel⟩
def sp_l_alike_v1 (K : PySem.W.Frag) : Sp := fun vs H Q _ => ∃ (v0 : V) (d0 : (List (Int ⊕ (List Nat) ⊕ Bool ⊕ (List Int) ⊕ (List Bool)))) (v1 : V) (d1 : (List (Int ⊕ (List Nat) ⊕ Bool ⊕ (List Int) ⊕ (List Bool)))) (r : Bool), vs = [v0, v1] ∧ (yTupL (ySum yInt (ySum yStr (ySum yBool (ySum (yTupL yInt) (yTupL yBool)))))).rep K H [] v0 d0 ∧ (yTupL (ySum yInt (ySum yStr (ySum yBool (ySum (yTupL yInt) (yTupL yBool)))))).rep K H [] v1 d1 ∧ Mi.m_l_alike_v1 d0 d1 = some r ∧ ∀ H', Chg ([]) H H' → Q (.bl r) H'
theorem ok_l_alike_v1 (B : Bi mg) (CN : Cs w K mg) (D : Dfn K mg "_law_alike" s_l_alike_v1) (C_l_alike_v5 : Cal P w K mg "_law_alike" ["_law_told", "_law_due"] 3 (sp_l_alike_v5 K)) : Cal P w K mg "_law_alike" ["_law_told", "_law_due"] 4 (sp_l_alike_v1 K) := by
 obtain ⟨f, fd, F, g⟩ := D.ex
 refine ⟨f, fd, g, F.kp, bindsF F (fun _ _ _ _ _ _ us hl => match us, hl with | [_, _], _ => rfl), fun base => F.ok sc_l_alike_v1 (fun vs H Q E h => ?_) (fun cdv A outer s H0 vs Q E hr h => ?_)⟩
 · obtain ⟨v0, d0, v1, d1, r, rfl, r0, r1, hm, hQ⟩ := h; rfl
 ·
   obtain ⟨v0, d0, v1, d1, r, rfl, r0, r1, hm, hQ⟩ := h
   refine ⟨_, pss_cons (ps_if (pt_cmpR op_isN1 (pv 1) pe_non (nomark _)) (pss_cons ps_never pss_nil) pss_nil)
     (pss_cons (ps_if (pt_val (pe_callB (cl_isi (K := K)) (by rfl) B.isinstance (by decide +kernel) (pa_cons (pv 1) (pa_cons (pe_bltn (v := .ty "bool") (by rfl) B.bool (by decide +kernel) rfl) pa_nil)))) (pss_cons ps_never pss_nil) pss_nil)
     (pss_cons (ps_if (pt_val (pe_callB (cl_isi (K := K)) (by rfl) B.isinstance (by decide +kernel) (pa_cons (pv 1) (pa_cons (pe_bltn (v := .ty "int") (by rfl) B.int (by decide +kernel) rfl) pa_nil)))) (pss_cons ps_never pss_nil) pss_nil)
     (pss_cons (ps_if (pt_val (pe_callB (cl_isi (K := K)) (by rfl) B.isinstance (by decide +kernel) (pa_cons (pv 1) (pa_cons (pe_bltn (v := .ty "str") (by rfl) B.str (by decide +kernel) rfl) pa_nil)))) (pss_cons ps_never pss_nil) pss_nil)
     (pss_cons (ps_if (PW.pt (pw_and (pt_val (pe_callB (cl_isi (K := K)) (by rfl) B.isinstance (by decide +kernel) (pa_cons (pv 1) (pa_cons (pe_bltn (v := .ty "list") (by rfl) B.list (by decide +kernel) rfl) pa_nil)))) (pw_and1 (pt_not (pt_val (pe_callB (cl_isi (K := K)) (by rfl) B.isinstance (by decide +kernel) (pa_cons (pv 0) (pa_cons (pe_bltn (v := .ty "list") (by rfl) B.list (by decide +kernel) rfl) pa_nil)))))))) (pss_cons (ps_ret pe_bl) pss_nil) (pss_nil))
     (pss_cons (ps_if (PW.pt (pw_and (pt_val (pe_callB (cl_isi (K := K)) (by rfl) B.isinstance (by decide +kernel) (pa_cons (pv 1) (pa_cons (pe_bltn (v := .ty "tuple") (by rfl) B.tuple (by decide +kernel) rfl) pa_nil)))) (pw_and1 (pt_not (pt_val (pe_callB (cl_isi (K := K)) (by rfl) B.isinstance (by decide +kernel) (pa_cons (pv 0) (pa_cons (pe_bltn (v := .ty "tuple") (by rfl) B.tuple (by decide +kernel) rfl) pa_nil)))))))) (pss_cons (ps_ret pe_bl) pss_nil) (pss_nil))
     (pss_cons (ps_if (pt_cmpR op_ne (pe_callB (cl_len (K := K)) (by rfl) B.len PySem.boot_len (pa_cons (pv 0) pa_nil)) (pe_callB (cl_len (K := K)) (by rfl) B.len PySem.boot_len (pa_cons (pv 1) pa_nil)) (nomark _)) (pss_cons (ps_ret pe_bl) pss_nil) (pss_nil))
     (pss_cons (ps_for PassesOwn.never rfl (pi_range1 (by rfl) B.range (pa_cons (pe_callB (cl_len (K := K)) (by rfl) B.len PySem.boot_len (pa_cons (pv 1) pa_nil)) pa_nil)) (pg_name (i := 2) sc_l_alike_v1.nd rfl (.inl rfl)) (pss_cons (ps_if (pt_not (pt_val (pe_cc C_l_alike_v5 hr (pa_cons (pe_ix (ix_t (K := K)) (pv 0) (pv 2) (fun _ _ => rfl)) (pa_cons (pe_ix (ix_t (K := K)) (pv 1) (pv 2) (fun _ _ => rfl)) pa_nil))))) (pss_cons (ps_ret pe_bl) pss_nil) (pss_nil))
     (pss_nil)))
     (pss_cons (ps_ret pe_bl) pss_nil)))))))), ?_⟩
   have c0 : Chg ([] : List Addr) H0 H0 := Chg.refl H0
   unfold Mi.m_l_alike_v1 at hm
   refine q_if (ans_t (val_isN (opt_i (nn_tupl r1) r1) (val_var rfl))) (fun hb => nomatch hb) (fun hb => ?_)
   refine w_fall ?_
   refine q_if (ans_B (val_isi (val_var rfl) (ty_tupl r1) (n := "tuple") (m := "bool") (b := false) (by decide +kernel))) (fun hb => nomatch hb) (fun hb => ?_)
   refine w_fall ?_
   refine q_if (ans_B (val_isi (val_var rfl) (ty_tupl r1) (n := "tuple") (m := "int") (b := false) (by decide +kernel))) (fun hb => nomatch hb) (fun hb => ?_)
   refine w_fall ?_
   refine q_if (ans_B (val_isi (val_var rfl) (ty_tupl r1) (n := "tuple") (m := "str") (b := false) (by decide +kernel))) (fun hb => nomatch hb) (fun hb => ?_)
   refine w_fall ?_
   refine q_if (ans_andB (ans_B (val_isi (val_var rfl) (ty_tupl r1) (n := "tuple") (m := "list") (b := false) (by decide +kernel))) (fun _ => (ans_N (ans_B (val_isi (val_var rfl) (ty_tupl r0) (n := "tuple") (m := "list") (b := false) (by decide +kernel)))))) (fun hb => ?_) (fun hb => ?_)
   ·
     replace hm := Mi.ifT hb hm
     refine q_ret ?_
     refine c_val val_c ?_
     obtain rfl := Option.some.inj hm
     exact hQ _ c0 
   replace hm := Mi.ifF hb hm
   refine w_fall ?_
   refine q_if (ans_andB (ans_B (val_isi (val_var rfl) (ty_tupl r1) (n := "tuple") (m := "tuple") (b := true) (by decide +kernel))) (fun _ => (ans_N (ans_B (val_isi (val_var rfl) (ty_tupl r0) (n := "tuple") (m := "tuple") (b := true) (by decide +kernel)))))) (fun hb => ?_) (fun hb => ?_)
   ·
     replace hm := Mi.ifT hb hm
     refine q_ret ?_
     refine c_val val_c ?_
     obtain rfl := Option.some.inj hm
     exact hQ _ c0 
   replace hm := Mi.ifF hb hm
   refine w_fall ?_
   refine q_if (ans_t (val_neI (val_lenT r0 (val_var rfl)) (val_lenT r1 (val_var rfl)))) (fun hb => ?_) (fun hb => ?_)
   ·
     replace hm := Mi.ifT hb hm
     refine q_ret ?_
     refine c_val val_c ?_
     obtain rfl := Option.some.inj hm
     exact hQ _ c0 
   replace hm := Mi.ifF hb hm
   refine w_fall ?_
   refine q_for ?_
   refine w_iRng1 ?_
   refine w_args (va_cons (val_lenT r1 (val_var rfl)) va_nil) ?_
   obtain ⟨g5, hg5, hm⟩ := Mi.bnd hm
   obtain ⟨e6, he6, hm⟩ := Mi.bnd hm
   refine l_rng1 hg5 (fun i σ' H' => ∃ (s7 : Unit) (y8 : Option V), σ' = [some v0, some v1, y8] ∧ Chg ([] : List Addr) H0 H' ∧ (yTupL (ySum yInt (ySum yStr (ySum yBool (ySum (yTupL yInt) (yTupL yBool)))))).rep K H' [] v0 d0 ∧ (yTupL (ySum yInt (ySum yStr (ySum yBool (ySum (yTupL yInt) (yTupL yBool)))))).rep K H' [] v1 d1 ∧ Mi.forR (Mi.m_l_alike_v1_b1 d0 d1) s7 (List.drop i g5) = some e6) ⟨(), none, rfl, c0, r0, r1, he6⟩ (fun i11 x10 σ' H' hx9 hp => ?_) (fun σ' H' hp => ?_)
   ·
     obtain ⟨s7, y8, rfl, c0, r0, r1, hle6⟩ := hp
     obtain ⟨o12, hbe6, hore6⟩ := Mi.forR_go hle6 hx9
     unfold Mi.m_l_alike_v1_b1 at hbe6
     refine g_name (σ' := [some v0, some v1, some (.int x10)]) rfl ?_
     refine q_ifS ?_
     refine w_not ?_
     refine w_B ?_
     refine w_call ?_
     obtain ⟨x13, hx13, hbe6⟩ := Mi.bnd hbe6
     obtain ⟨u14, r15, ku16⟩ := itm_T r0 hx13
     obtain ⟨x17, hx17, hbe6⟩ := Mi.bnd hbe6
     obtain ⟨u18, r19, ku20⟩ := itm_T r1 hx17
     refine w_args (va_cons (ku16 (val_var rfl) (val_var rfl)) (va_cons (ku20 (val_var rfl) (val_var rfl)) va_nil)) ?_
     obtain ⟨q21, hq21, hbe6⟩ := Mi.bnd hbe6
     refine ⟨u14, x13, u18, x17, q21, rfl, r15, r19, hq21, fun H23 c22  => ?_⟩
     have r0 := Ty.fz r0 c22
     have r1 := Ty.fz r1 c22
     have c0 := c0.trans c22.none
     refine ⟨_, rfl, ?_⟩
     refine c_if (fun hb => ?_) (fun hb => ?_)
     ·
       replace hbe6 := Mi.ifT hb hbe6
       refine q_ret ?_
       refine c_val val_c ?_
       obtain rfl := Option.some.inj hbe6
       obtain rfl := Mi.or_inl hore6
       obtain rfl := Option.some.inj (Mi.orR_inl hm)
       exact hQ _ c0 
     replace hbe6 := Mi.ifF hb hbe6
     refine w_fall ?_
     refine w_nextJ ?_
     obtain rfl := Option.some.inj hbe6
     replace hore6 := Mi.or_inr hore6
     exact ⟨_, (some (.int x10)), rfl, c0, r0, r1, hore6⟩
   obtain ⟨s7, y8, rfl, c0, r0, r1, hle6⟩ := hp
   obtain rfl := Mi.forR_end hle6
   replace hm := Mi.orR_inr hm
   refine q_ret ?_
   refine c_val val_c ?_
   obtain rfl := Option.some.inj hm
   exact hQ _ c0 
theorem sc_l_alike_vb : FnScope ["_law_told", "_law_due", "_law_k"] ["_law_told", "_law_due"] (defScope s_l_alike_vb) := ⟨rfl, rfl, rfl, by decide +kernel, rfl, by decide +kernel, by decide +kernel⟩
def sp_l_alike_vb (K : PySem.W.Frag) : Sp := fun vs H Q _ => ∃ (d0 : Bool) (d1 : Bool) (r : Bool), vs = [(.bl d0), (.bl d1)] ∧ Mi.m_l_alike_vb d0 d1 = some r ∧ ∀ H', Chg ([]) H H' → Q (.bl r) H'
theorem ok_l_alike_vb (B : Bi mg) (CN : Cs w K mg) (D : Dfn K mg "_law_alike" s_l_alike_vb)  : Cal P w K mg "_law_alike" ["_law_told", "_law_due"] 1 (sp_l_alike_vb K) := by
 obtain ⟨f, fd, F, g⟩ := D.ex
 refine ⟨f, fd, g, F.kp, bindsF F (fun _ _ _ _ _ _ us hl => match us, hl with | [_, _], _ => rfl), fun base => F.ok sc_l_alike_vb (fun vs H Q E h => ?_) (fun cdv A outer s H0 vs Q E hr h => ?_)⟩
 · obtain ⟨d0, d1, r, rfl, hm, hQ⟩ := h; rfl
 ·
   obtain ⟨d0, d1, r, rfl, hm, hQ⟩ := h
   refine ⟨_, pss_cons (ps_if (pt_cmpR op_isN1 (pv 1) pe_non (nomark _)) (pss_cons ps_never pss_nil) pss_nil)
     (pss_cons (ps_if (pt_val (pe_callB (cl_isi (K := K)) (by rfl) B.isinstance (by decide +kernel) (pa_cons (pv 1) (pa_cons (pe_bltn (v := .ty "bool") (by rfl) B.bool (by decide +kernel) rfl) pa_nil)))) (pss_cons (ps_ret (pe_and (pe_callB (cl_isi (K := K)) (by rfl) B.isinstance (by decide +kernel) (pa_cons (pv 0) (pa_cons (pe_bltn (v := .ty "bool") (by rfl) B.bool (by decide +kernel) rfl) pa_nil))) (pe_one (pe_cmpR op_eq (pv 0) (pv 1) (nomark _))))) pss_nil) (pss_nil))
     (pss_cons ps_never (pss_cons ps_never (pss_cons ps_never (pss_cons ps_never (pss_cons ps_never (pss_cons ps_never (pss_cons ps_never pss_nil)))))))), ?_⟩
   have c0 : Chg ([] : List Addr) H0 H0 := Chg.refl H0
   unfold Mi.m_l_alike_vb at hm
   refine q_if (ans_t (val_isN (K := K) (opt_i (τ := yBool) nn_bl ⟨rfl, rfl⟩) (val_var rfl))) (fun hb => nomatch hb) (fun hb => ?_)
   refine w_fall ?_
   refine q_if (ans_B (val_isi (val_var rfl) ty_bl (n := "bool") (m := "bool") (b := true) (by decide +kernel))) (fun hb => ?_) (fun hb => ?_)
   ·
     replace hm := Mi.ifT hb hm
     refine q_ret ?_
     refine c_val (val_andV (val_isi (val_var rfl) ty_bl (n := "bool") (m := "bool") (b := true) (by decide +kernel)) (fun _ => (val_eqB (val_var rfl) (val_var rfl)))) ?_
     obtain rfl := Option.some.inj hm
     exact hQ _ c0 
   replace hm := Mi.ifF hb hm
   refine w_fall ?_
   cases hm
theorem sc_l_alike_vi : FnScope ["_law_told", "_law_due", "_law_k"] ["_law_told", "_law_due"] (defScope s_l_alike_vi) := ⟨rfl, rfl, rfl, by decide +kernel, rfl, by decide +kernel, by decide +kernel⟩
def sp_l_alike_vi (K : PySem.W.Frag) : Sp := fun vs H Q _ => ∃ (d0 : Int) (d1 : Int) (r : Bool), vs = [(.int d0), (.int d1)] ∧ Mi.m_l_alike_vi d0 d1 = some r ∧ ∀ H', Chg ([]) H H' → Q (.bl r) H'
theorem ok_l_alike_vi (B : Bi mg) (CN : Cs w K mg) (D : Dfn K mg "_law_alike" s_l_alike_vi) (C_l_int : Cal P w K mg "_law_int" ["_law_x"] 1 (sp_l_int K)) : Cal P w K mg "_law_alike" ["_law_told", "_law_due"] 2 (sp_l_alike_vi K) := by
 obtain ⟨f, fd, F, g⟩ := D.ex
 refine ⟨f, fd, g, F.kp, bindsF F (fun _ _ _ _ _ _ us hl => match us, hl with | [_, _], _ => rfl), fun base => F.ok sc_l_alike_vi (fun vs H Q E h => ?_) (fun cdv A outer s H0 vs Q E hr h => ?_)⟩
 · obtain ⟨d0, d1, r, rfl, hm, hQ⟩ := h; rfl
 ·
   obtain ⟨d0, d1, r, rfl, hm, hQ⟩ := h
   refine ⟨_, pss_cons (ps_if (pt_cmpR op_isN1 (pv 1) pe_non (nomark _)) (pss_cons ps_never pss_nil) pss_nil)
     (pss_cons (ps_if (pt_val (pe_callB (cl_isi (K := K)) (by rfl) B.isinstance (by decide +kernel) (pa_cons (pv 1) (pa_cons (pe_bltn (v := .ty "bool") (by rfl) B.bool (by decide +kernel) rfl) pa_nil)))) (pss_cons ps_never pss_nil) pss_nil)
     (pss_cons (ps_if (pt_val (pe_callB (cl_isi (K := K)) (by rfl) B.isinstance (by decide +kernel) (pa_cons (pv 1) (pa_cons (pe_bltn (v := .ty "int") (by rfl) B.int (by decide +kernel) rfl) pa_nil)))) (pss_cons (ps_ret (pe_and (pe_cc C_l_int hr (pa_cons (pv 0) pa_nil)) (pe_one (pe_cmpR op_eq (pv 0) (pv 1) (nomark _))))) pss_nil) (pss_nil))
     (pss_cons ps_never (pss_cons ps_never (pss_cons ps_never (pss_cons ps_never (pss_cons ps_never (pss_cons ps_never pss_nil)))))))), ?_⟩
   have c0 : Chg ([] : List Addr) H0 H0 := Chg.refl H0
   unfold Mi.m_l_alike_vi at hm
   refine q_if (ans_t (val_isN (K := K) (opt_i (τ := yInt) nn_int ⟨rfl, rfl⟩) (val_var rfl))) (fun hb => nomatch hb) (fun hb => ?_)
   refine w_fall ?_
   refine q_if (ans_B (val_isi (val_var rfl) ty_int (n := "int") (m := "bool") (b := false) (by decide +kernel))) (fun hb => nomatch hb) (fun hb => ?_)
   refine w_fall ?_
   refine q_if (ans_B (val_isi (val_var rfl) ty_int (n := "int") (m := "int") (b := true) (by decide +kernel))) (fun hb => ?_) (fun hb => ?_)
   ·
     replace hm := Mi.ifT hb hm
     refine q_ret ?_
     obtain ⟨b3, hb3, hm⟩ := Mi.bnd hm
     refine j_te (.bl b3) (R := fun H' => Chg ([] : List Addr) H0 H' ∧ True) (fun Q' kq => ?_) (fun H' hj => ?_)
     ·
       refine w_andV ?_
       refine w_call ?_
       refine w_args (va_cons (val_var rfl) va_nil) ?_
       obtain ⟨q4, hq4, hb3⟩ := Mi.bnd hb3
       refine Or.inl ⟨d0, q4, rfl, hq4, fun H6 c5  => ?_⟩
       have c0 := c0.trans c5.none
       refine ⟨_, rfl, ?_⟩
       refine c_if (fun hb => ?_) (fun hb => ?_)
       rotate_left
       ·
         replace hb3 := Mi.ifF hb hb3
         obtain rfl := Option.some.inj hb3
         exact kq _ ⟨c0, trivial⟩
       replace hb3 := Mi.ifT hb hb3
       refine c_val (val_eqI (val_var rfl) (val_var rfl)) ?_
       obtain rfl := Option.some.inj hb3
       exact kq _ ⟨c0, trivial⟩
     obtain ⟨c0, _⟩ := hj
     obtain rfl := Option.some.inj hm
     exact hQ _ c0 
   replace hm := Mi.ifF hb hm
   refine w_fall ?_
   cases hm
theorem sc_l_alike_vl : FnScope ["_law_told", "_law_due", "_law_k"] ["_law_told", "_law_due"] (defScope s_l_alike_vl) := ⟨rfl, rfl, rfl, by decide +kernel, rfl, by decide +kernel, by decide +kernel⟩
def sp_l_alike_vl (K : PySem.W.Frag) : Sp := fun vs H Q _ => ∃ (v0 : V) (F0 : List Addr) (d0 : (List (List (Int ⊕ (List Nat) ⊕ Bool ⊕ (List Int) ⊕ (List Bool))))) (v1 : V) (F1 : List Addr) (d1 : (List (List (Int ⊕ (List Nat) ⊕ Bool ⊕ (List Int) ⊕ (List Bool))))) (r : Bool), vs = [v0, v1] ∧ (yLst (yTupL (ySum yInt (ySum yStr (ySum yBool (ySum (yTupL yInt) (yTupL yBool))))))).rep K H F0 v0 d0 ∧ (yLst (yTupL (ySum yInt (ySum yStr (ySum yBool (ySum (yTupL yInt) (yTupL yBool))))))).rep K H F1 v1 d1 ∧ Mi.m_l_alike_vl d0 d1 = some r ∧ ∀ H', Chg ([]) H H' → Q (.bl r) H'
theorem ok_l_alike_vl (B : Bi mg) (CN : Cs w K mg) (D : Dfn K mg "_law_alike" s_l_alike_vl) (C_l_alike_v1 : Cal P w K mg "_law_alike" ["_law_told", "_law_due"] 4 (sp_l_alike_v1 K)) : Cal P w K mg "_law_alike" ["_law_told", "_law_due"] 5 (sp_l_alike_vl K) := by
 obtain ⟨f, fd, F, g⟩ := D.ex
 refine ⟨f, fd, g, F.kp, bindsF F (fun _ _ _ _ _ _ us hl => match us, hl with | [_, _], _ => rfl), fun base => F.ok sc_l_alike_vl (fun vs H Q E h => ?_) (fun cdv A outer s H0 vs Q E hr h => ?_)⟩
 · obtain ⟨v0, F0, d0, v1, F1, d1, r, rfl, r0, r1, hm, hQ⟩ := h; rfl
 ·
   obtain ⟨v0, F0, d0, v1, F1, d1, r, rfl, r0, r1, hm, hQ⟩ := h
   refine ⟨_, pss_cons (ps_if (pt_cmpR op_isN1 (pv 1) pe_non (nomark _)) (pss_cons ps_never pss_nil) pss_nil)
     (pss_cons (ps_if (pt_val (pe_callB (cl_isi (K := K)) (by rfl) B.isinstance (by decide +kernel) (pa_cons (pv 1) (pa_cons (pe_bltn (v := .ty "bool") (by rfl) B.bool (by decide +kernel) rfl) pa_nil)))) (pss_cons ps_never pss_nil) pss_nil)
     (pss_cons (ps_if (pt_val (pe_callB (cl_isi (K := K)) (by rfl) B.isinstance (by decide +kernel) (pa_cons (pv 1) (pa_cons (pe_bltn (v := .ty "int") (by rfl) B.int (by decide +kernel) rfl) pa_nil)))) (pss_cons ps_never pss_nil) pss_nil)
     (pss_cons (ps_if (pt_val (pe_callB (cl_isi (K := K)) (by rfl) B.isinstance (by decide +kernel) (pa_cons (pv 1) (pa_cons (pe_bltn (v := .ty "str") (by rfl) B.str (by decide +kernel) rfl) pa_nil)))) (pss_cons ps_never pss_nil) pss_nil)
     (pss_cons (ps_if (PW.pt (pw_and (pt_val (pe_callB (cl_isi (K := K)) (by rfl) B.isinstance (by decide +kernel) (pa_cons (pv 1) (pa_cons (pe_bltn (v := .ty "list") (by rfl) B.list (by decide +kernel) rfl) pa_nil)))) (pw_and1 (pt_not (pt_val (pe_callB (cl_isi (K := K)) (by rfl) B.isinstance (by decide +kernel) (pa_cons (pv 0) (pa_cons (pe_bltn (v := .ty "list") (by rfl) B.list (by decide +kernel) rfl) pa_nil)))))))) (pss_cons (ps_ret pe_bl) pss_nil) (pss_nil))
     (pss_cons (ps_if (PW.pt (pw_and (pt_val (pe_callB (cl_isi (K := K)) (by rfl) B.isinstance (by decide +kernel) (pa_cons (pv 1) (pa_cons (pe_bltn (v := .ty "tuple") (by rfl) B.tuple (by decide +kernel) rfl) pa_nil)))) (pw_and1 (pt_not (pt_val (pe_callB (cl_isi (K := K)) (by rfl) B.isinstance (by decide +kernel) (pa_cons (pv 0) (pa_cons (pe_bltn (v := .ty "tuple") (by rfl) B.tuple (by decide +kernel) rfl) pa_nil)))))))) (pss_cons (ps_ret pe_bl) pss_nil) (pss_nil))
     (pss_cons (ps_if (pt_cmpR op_ne (pe_callB (cl_len (K := K)) (by rfl) B.len PySem.boot_len (pa_cons (pv 0) pa_nil)) (pe_callB (cl_len (K := K)) (by rfl) B.len PySem.boot_len (pa_cons (pv 1) pa_nil)) (nomark _)) (pss_cons (ps_ret pe_bl) pss_nil) (pss_nil))
     (pss_cons (ps_for PassesOwn.never rfl (pi_range1 (by rfl) B.range (pa_cons (pe_callB (cl_len (K := K)) (by rfl) B.len PySem.boot_len (pa_cons (pv 1) pa_nil)) pa_nil)) (pg_name (i := 2) sc_l_alike_vl.nd rfl (.inl rfl)) (pss_cons (ps_if (pt_not (pt_val (pe_cc C_l_alike_v1 hr (pa_cons (pe_ix (ix_l (K := K)) (pv 0) (pv 2) (fun _ _ => rfl)) (pa_cons (pe_ix (ix_l (K := K)) (pv 1) (pv 2) (fun _ _ => rfl)) pa_nil))))) (pss_cons (ps_ret pe_bl) pss_nil) (pss_nil))
     (pss_nil)))
     (pss_cons (ps_ret pe_bl) pss_nil)))))))), ?_⟩
   have c0 : Chg ([] : List Addr) H0 H0 := Chg.refl H0
   unfold Mi.m_l_alike_vl at hm
   refine q_if (ans_t (val_isN (opt_i (nn_lst r1) r1) (val_var rfl))) (fun hb => nomatch hb) (fun hb => ?_)
   refine w_fall ?_
   refine q_if (ans_B (val_isi (val_var rfl) (ty_lst r1) (n := "list") (m := "bool") (b := false) (by decide +kernel))) (fun hb => nomatch hb) (fun hb => ?_)
   refine w_fall ?_
   refine q_if (ans_B (val_isi (val_var rfl) (ty_lst r1) (n := "list") (m := "int") (b := false) (by decide +kernel))) (fun hb => nomatch hb) (fun hb => ?_)
   refine w_fall ?_
   refine q_if (ans_B (val_isi (val_var rfl) (ty_lst r1) (n := "list") (m := "str") (b := false) (by decide +kernel))) (fun hb => nomatch hb) (fun hb => ?_)
   refine w_fall ?_
   refine q_if (ans_andB (ans_B (val_isi (val_var rfl) (ty_lst r1) (n := "list") (m := "list") (b := true) (by decide +kernel))) (fun _ => (ans_N (ans_B (val_isi (val_var rfl) (ty_lst r0) (n := "list") (m := "list") (b := true) (by decide +kernel)))))) (fun hb => ?_) (fun hb => ?_)
   ·
     replace hm := Mi.ifT hb hm
     refine q_ret ?_
     refine c_val val_c ?_
     obtain rfl := Option.some.inj hm
     exact hQ _ c0 
   replace hm := Mi.ifF hb hm
   refine w_fall ?_
   refine q_if (ans_andB (ans_B (val_isi (val_var rfl) (ty_lst r1) (n := "list") (m := "tuple") (b := false) (by decide +kernel))) (fun _ => (ans_N (ans_B (val_isi (val_var rfl) (ty_lst r0) (n := "list") (m := "tuple") (b := false) (by decide +kernel)))))) (fun hb => ?_) (fun hb => ?_)
   ·
     replace hm := Mi.ifT hb hm
     refine q_ret ?_
     refine c_val val_c ?_
     obtain rfl := Option.some.inj hm
     exact hQ _ c0 
   replace hm := Mi.ifF hb hm
   refine w_fall ?_
   refine q_if (ans_t (val_neI (val_lenL r0 (val_var rfl)) (val_lenL r1 (val_var rfl)))) (fun hb => ?_) (fun hb => ?_)
   ·
     replace hm := Mi.ifT hb hm
     refine q_ret ?_
     refine c_val val_c ?_
     obtain rfl := Option.some.inj hm
     exact hQ _ c0 
   replace hm := Mi.ifF hb hm
   refine w_fall ?_
   refine q_for ?_
   refine w_iRng1 ?_
   refine w_args (va_cons (val_lenL r1 (val_var rfl)) va_nil) ?_
   obtain ⟨g5, hg5, hm⟩ := Mi.bnd hm
   obtain ⟨e6, he6, hm⟩ := Mi.bnd hm
   refine l_rng1 hg5 (fun i σ' H' => ∃ (s7 : Unit) (y8 : Option V), σ' = [some v0, some v1, y8] ∧ Chg ([] : List Addr) H0 H' ∧ (yLst (yTupL (ySum yInt (ySum yStr (ySum yBool (ySum (yTupL yInt) (yTupL yBool))))))).rep K H' F0 v0 d0 ∧ (yLst (yTupL (ySum yInt (ySum yStr (ySum yBool (ySum (yTupL yInt) (yTupL yBool))))))).rep K H' F1 v1 d1 ∧ Mi.forR (Mi.m_l_alike_vl_b1 d0 d1) s7 (List.drop i g5) = some e6) ⟨(), none, rfl, c0, r0, r1, he6⟩ (fun i11 x10 σ' H' hx9 hp => ?_) (fun σ' H' hp => ?_)
   ·
     obtain ⟨s7, y8, rfl, c0, r0, r1, hle6⟩ := hp
     obtain ⟨o12, hbe6, hore6⟩ := Mi.forR_go hle6 hx9
     unfold Mi.m_l_alike_vl_b1 at hbe6
     refine g_name (σ' := [some v0, some v1, some (.int x10)]) rfl ?_
     refine q_ifS ?_
     refine w_not ?_
     refine w_B ?_
     refine w_call ?_
     obtain ⟨x13, hx13, hbe6⟩ := Mi.bnd hbe6
     obtain ⟨u14, r15, ku16⟩ := itm_L r0 hx13
     obtain ⟨x17, hx17, hbe6⟩ := Mi.bnd hbe6
     obtain ⟨u18, r19, ku20⟩ := itm_L r1 hx17
     refine w_args (va_cons (ku16 (val_var rfl) (val_var rfl)) (va_cons (ku20 (val_var rfl) (val_var rfl)) va_nil)) ?_
     obtain ⟨q21, hq21, hbe6⟩ := Mi.bnd hbe6
     refine ⟨u14, x13, u18, x17, q21, rfl, r15, r19, hq21, fun H23 c22  => ?_⟩
     have r0 := Ty.ex r0 c22
     have r1 := Ty.ex r1 c22
     have c0 := c0.trans c22.none
     refine ⟨_, rfl, ?_⟩
     refine c_if (fun hb => ?_) (fun hb => ?_)
     ·
       replace hbe6 := Mi.ifT hb hbe6
       refine q_ret ?_
       refine c_val val_c ?_
       obtain rfl := Option.some.inj hbe6
       obtain rfl := Mi.or_inl hore6
       obtain rfl := Option.some.inj (Mi.orR_inl hm)
       exact hQ _ c0 
     replace hbe6 := Mi.ifF hb hbe6
     refine w_fall ?_
     refine w_nextJ ?_
     obtain rfl := Option.some.inj hbe6
     replace hore6 := Mi.or_inr hore6
     exact ⟨_, (some (.int x10)), rfl, c0, r0, r1, hore6⟩
   obtain ⟨s7, y8, rfl, c0, r0, r1, hle6⟩ := hp
   obtain rfl := Mi.forR_end hle6
   replace hm := Mi.orR_inr hm
   refine q_ret ?_
   refine c_val val_c ?_
   obtain rfl := Option.some.inj hm
   exact hQ _ c0 
theorem sc_l_alike : FnScope ["_law_told", "_law_due", "_law_k"] ["_law_told", "_law_due"] (defScope s_l_alike) := ⟨rfl, rfl, rfl, by decide +kernel, rfl, by decide +kernel, by decide +kernel⟩
def sp_l_alike (K : PySem.W.Frag) : Sp := fun vs H Q _ => (∃ (v0 : V) (d0 : (Bool × Int)) (v1 : V) (d1 : (Bool × Int)) (r : Bool), vs = [v0, v1] ∧ (yTup (sCons yBool (sOne yInt))).rep K H [] v0 d0 ∧ (yTup (sCons yBool (sOne yInt))).rep K H [] v1 d1 ∧ Mi.m_l_alike_0 d0 d1 = some r ∧ ∀ H', Chg ([]) H H' → Q (.bl r) H') ∨ (∃ (v0 : V) (F0 : List Addr) (d0 : (Bool × (List (List (Int ⊕ (List Nat) ⊕ Bool ⊕ (List Int) ⊕ (List Bool)))))) (v1 : V) (F1 : List Addr) (d1 : (Bool × (List (List (Int ⊕ (List Nat) ⊕ Bool ⊕ (List Int) ⊕ (List Bool)))))) (r : Bool), vs = [v0, v1] ∧ (yTup (sCons yBool (sOne (yLst (yTupL (ySum yInt (ySum yStr (ySum yBool (ySum (yTupL yInt) (yTupL yBool)))))))))).rep K H F0 v0 d0 ∧ (yTup (sCons yBool (sOne (yLst (yTupL (ySum yInt (ySum yStr (ySum yBool (ySum (yTupL yInt) (yTupL yBool)))))))))).rep K H F1 v1 d1 ∧ Mi.m_l_alike_1 d0 d1 = some r ∧ ∀ H', Chg ([]) H H' → Q (.bl r) H')
theorem ok_l_alike (B : Bi mg) (CN : Cs w K mg) (D : Dfn K mg "_law_alike" s_l_alike) (C_l_alike_vb : Cal P w K mg "_law_alike" ["_law_told", "_law_due"] 1 (sp_l_alike_vb K)) (C_l_alike_vi : Cal P w K mg "_law_alike" ["_law_told", "_law_due"] 2 (sp_l_alike_vi K)) (C_l_alike_vl : Cal P w K mg "_law_alike" ["_law_told", "_law_due"] 5 (sp_l_alike_vl K)) : Cal P w K mg "_law_alike" ["_law_told", "_law_due"] 6 (sp_l_alike K) := by
 obtain ⟨f, fd, F, g⟩ := D.ex
 refine ⟨f, fd, g, F.kp, bindsF F (fun _ _ _ _ _ _ us hl => match us, hl with | [_, _], _ => rfl), fun base => F.ok sc_l_alike (fun vs H Q E h => ?_) (fun cdv A outer s H0 vs Q E hr h => ?_)⟩
 · rcases h with ⟨v0, d0, v1, d1, r, rfl, r0, r1, hm, hQ⟩ | ⟨v0, F0, d0, v1, F1, d1, r, rfl, r0, r1, hm, hQ⟩
   all_goals first | rfl | (subst hvs; rfl)
 · rcases h with h | h
   ·
     obtain ⟨v0, d0, v1, d1, r, rfl, r0, r1, hm, hQ⟩ := h
     refine ⟨_, pss_cons (ps_if (pt_cmpR op_isN1 (pv 1) pe_non (nomark _)) (pss_cons ps_never pss_nil) pss_nil)
     (pss_cons (ps_if (pt_val (pe_callB (cl_isi (K := K)) (by rfl) B.isinstance (by decide +kernel) (pa_cons (pv 1) (pa_cons (pe_bltn (v := .ty "bool") (by rfl) B.bool (by decide +kernel) rfl) pa_nil)))) (pss_cons ps_never pss_nil) pss_nil)
     (pss_cons (ps_if (pt_val (pe_callB (cl_isi (K := K)) (by rfl) B.isinstance (by decide +kernel) (pa_cons (pv 1) (pa_cons (pe_bltn (v := .ty "int") (by rfl) B.int (by decide +kernel) rfl) pa_nil)))) (pss_cons ps_never pss_nil) pss_nil)
     (pss_cons (ps_if (pt_val (pe_callB (cl_isi (K := K)) (by rfl) B.isinstance (by decide +kernel) (pa_cons (pv 1) (pa_cons (pe_bltn (v := .ty "str") (by rfl) B.str (by decide +kernel) rfl) pa_nil)))) (pss_cons ps_never pss_nil) pss_nil)
     (pss_cons (ps_if (PW.pt (pw_and (pt_val (pe_callB (cl_isi (K := K)) (by rfl) B.isinstance (by decide +kernel) (pa_cons (pv 1) (pa_cons (pe_bltn (v := .ty "list") (by rfl) B.list (by decide +kernel) rfl) pa_nil)))) (pw_and1 (pt_not (pt_val (pe_callB (cl_isi (K := K)) (by rfl) B.isinstance (by decide +kernel) (pa_cons (pv 0) (pa_cons (pe_bltn (v := .ty "list") (by rfl) B.list (by decide +kernel) rfl) pa_nil)))))))) (pss_cons (ps_ret pe_bl) pss_nil) (pss_nil))
     (pss_cons (ps_if (PW.pt (pw_and (pt_val (pe_callB (cl_isi (K := K)) (by rfl) B.isinstance (by decide +kernel) (pa_cons (pv 1) (pa_cons (pe_bltn (v := .ty "tuple") (by rfl) B.tuple (by decide +kernel) rfl) pa_nil)))) (pw_and1 (pt_not (pt_val (pe_callB (cl_isi (K := K)) (by rfl) B.isinstance (by decide +kernel) (pa_cons (pv 0) (pa_cons (pe_bltn (v := .ty "tuple") (by rfl) B.tuple (by decide +kernel) rfl) pa_nil)))))))) (pss_cons (ps_ret pe_bl) pss_nil) (pss_nil))
     (pss_cons (ps_if (pt_cmpR op_ne (pe_callB (cl_len (K := K)) (by rfl) B.len PySem.boot_len (pa_cons (pv 0) pa_nil)) (pe_callB (cl_len (K := K)) (by rfl) B.len PySem.boot_len (pa_cons (pv 1) pa_nil)) (nomark _)) (pss_cons (ps_ret pe_bl) pss_nil) (pss_nil))
     (pss_cons (ps_for PassesOwn.never rfl (pi_range1 (by rfl) B.range (pa_cons (pe_callB (cl_len (K := K)) (by rfl) B.len PySem.boot_len (pa_cons (pv 1) pa_nil)) pa_nil)) (pg_name (i := 2) sc_l_alike.nd rfl (.inl rfl)) (pss_cons (ps_if (pt_not (pt_val (pe_two (pe_cc C_l_alike_vb hr (pa_cons (pe_ix (ix_t (K := K)) (pv 0) (pv 2) (fun _ _ => rfl)) (pa_cons (pe_ix (ix_t (K := K)) (pv 1) (pv 2) (fun _ _ => rfl)) pa_nil))) (pe_cc C_l_alike_vi hr (pa_cons (pe_ix (ix_t (K := K)) (pv 0) (pv 2) (fun _ _ => rfl)) (pa_cons (pe_ix (ix_t (K := K)) (pv 1) (pv 2) (fun _ _ => rfl)) pa_nil)))))) (pss_cons (ps_ret pe_bl) pss_nil) (pss_nil))
     (pss_nil)))
     (pss_cons (ps_ret pe_bl) pss_nil)))))))), ?_⟩
     have c0 : Chg ([] : List Addr) H0 H0 := Chg.refl H0
     unfold Mi.m_l_alike_0 at hm
     refine q_if (ans_t (val_isN (opt_i (nn_tup r1) r1) (val_var rfl))) (fun hb => nomatch hb) (fun hb => ?_)
     refine w_fall ?_
     refine q_if (ans_B (val_isi (val_var rfl) (ty_tup r1) (n := "tuple") (m := "bool") (b := false) (by decide +kernel))) (fun hb => nomatch hb) (fun hb => ?_)
     refine w_fall ?_
     refine q_if (ans_B (val_isi (val_var rfl) (ty_tup r1) (n := "tuple") (m := "int") (b := false) (by decide +kernel))) (fun hb => nomatch hb) (fun hb => ?_)
     refine w_fall ?_
     refine q_if (ans_B (val_isi (val_var rfl) (ty_tup r1) (n := "tuple") (m := "str") (b := false) (by decide +kernel))) (fun hb => nomatch hb) (fun hb => ?_)
     refine w_fall ?_
     refine q_if (ans_andB (ans_B (val_isi (val_var rfl) (ty_tup r1) (n := "tuple") (m := "list") (b := false) (by decide +kernel))) (fun _ => (ans_N (ans_B (val_isi (val_var rfl) (ty_tup r0) (n := "tuple") (m := "list") (b := false) (by decide +kernel)))))) (fun hb => ?_) (fun hb => ?_)
     · replace hm := Mi.ifT hb hm
       refine q_ret ?_
       refine c_val val_c ?_
       obtain rfl := Option.some.inj hm
       exact hQ _ c0
     replace hm := Mi.ifF hb hm
     refine w_fall ?_
     refine q_if (ans_andB (ans_B (val_isi (val_var rfl) (ty_tup r1) (n := "tuple") (m := "tuple") (b := true) (by decide +kernel))) (fun _ => (ans_N (ans_B (val_isi (val_var rfl) (ty_tup r0) (n := "tuple") (m := "tuple") (b := true) (by decide +kernel)))))) (fun hb => ?_) (fun hb => ?_)
     · replace hm := Mi.ifT hb hm
       refine q_ret ?_
       refine c_val val_c ?_
       obtain rfl := Option.some.inj hm
       exact hQ _ c0
     replace hm := Mi.ifF hb hm
     refine w_fall ?_
     refine q_if (ans_t (val_neI (val_lenU (n := 2) (lens_cons lens_one) r0 (val_var rfl)) (val_lenU (n := 2) (lens_cons lens_one) r1 (val_var rfl)))) (fun hb => ?_) (fun hb => ?_)
     · replace hm := Mi.ifT hb hm
       refine q_ret ?_
       refine c_val val_c ?_
       obtain rfl := Option.some.inj hm
       exact hQ _ c0
     replace hm := Mi.ifF hb hm
     refine w_fall ?_
     refine q_for ?_
     refine w_iRng1 ?_
     refine w_args (va_cons (val_lenU (n := 2) (lens_cons lens_one) r1 (val_var rfl)) va_nil) ?_
     obtain ⟨q6, hq6, hm⟩ := Mi.bnd hm
     refine l_rng1 (xs := [0, 1]) (by rfl) (fun i σ' H' => ∃ (y10 : Option V), σ' = [some v0, some v1, y10] ∧ Chg ([] : List Addr) H0 H' ∧ (yTup (sCons yBool (sOne yInt))).rep K H' [] v0 d0 ∧ (yTup (sCons yBool (sOne yInt))).rep K H' [] v1 d1 ∧ (i ≠ 0 → q6 = true) ∧ (2 ≤ i → r = true)) ⟨none, rfl, c0, r0, r1, fun h => (h rfl).elim, fun h => by omega⟩ (fun i13 x12 σ' H' hx11 hp => ?_) (fun σ' H' hp => ?_)
     · obtain ⟨y10, rfl, c0, r0, r1, k0, k1⟩ := hp
       refine g_name (σ' := [some v0, some v1, some (.int x12)]) rfl ?_
       refine q_ifS ?_
       refine w_not ?_
       refine w_B ?_
       match i13, hx11, k0, k1 with
       | 0, hx11, k0, k1 =>
         cases Option.some.inj hx11
         refine w_two1 ?_
         refine w_call ?_
         obtain ⟨w1, G1, ⟨t1, rfl⟩, _, _, kk1⟩ := itm_tup (n := 0) at0 r0
         obtain ⟨w2, G2, ⟨t2, rfl⟩, _, _, kk2⟩ := itm_tup (n := 0) at0 r1
         refine w_args (va_cons (kk1 (val_var rfl) (val_var rfl)) (va_cons (kk2 (val_var rfl) (val_var rfl)) va_nil)) ?_
         refine ⟨d0.1, d1.1, q6, rfl, hq6, fun H31 c30 => ?_⟩
         have r0 := Ty.ex r0 c30
         have r1 := Ty.ex r1 c30
         have c0 := c0.trans c30.none
         refine ⟨_, rfl, ?_⟩
         refine c_if (fun hb => ?_) (fun hb => ?_)
         · replace hm := Mi.ifT hb hm
           refine q_ret ?_
           refine c_val val_c ?_
           obtain rfl := Option.some.inj hm
           exact hQ _ c0
         · refine w_fall ?_
           refine w_nextJ ?_
           exact ⟨(some (.int 0)), rfl, c0, r0, r1, fun _ => by cases q6 with | false => cases hb | true => rfl, fun h => by omega⟩
       | 1, hx11, k0, k1 =>
         cases Option.some.inj hx11
         have e6 := k0 (by decide)
         rw [e6] at hm
         replace hm := Mi.ifF (by decide) hm
         obtain ⟨q1, hq1, hm⟩ := Mi.bnd hm
         refine w_two2 ?_
         refine w_call ?_
         obtain ⟨w1, G1, ⟨t1, rfl⟩, _, _, kk1⟩ := itm_tup (n := 1) (atS at1) r0
         obtain ⟨w2, G2, ⟨t2, rfl⟩, _, _, kk2⟩ := itm_tup (n := 1) (atS at1) r1
         refine w_args (va_cons (kk1 (val_var rfl) (val_var rfl)) (va_cons (kk2 (val_var rfl) (val_var rfl)) va_nil)) ?_
         refine ⟨d0.2, d1.2, q1, rfl, hq1, fun H31 c30 => ?_⟩
         have r0 := Ty.ex r0 c30
         have r1 := Ty.ex r1 c30
         have c0 := c0.trans c30.none
         refine ⟨_, rfl, ?_⟩
         refine c_if (fun hb => ?_) (fun hb => ?_)
         · replace hm := Mi.ifT hb hm
           refine q_ret ?_
           refine c_val val_c ?_
           obtain rfl := Option.some.inj hm
           exact hQ _ c0
         · replace hm := Mi.ifF hb hm
           refine w_fall ?_
           refine w_nextJ ?_
           exact ⟨(some (.int 1)), rfl, c0, r0, r1, fun _ => e6, fun _ => (Option.some.inj hm).symm⟩
       | n + 2, hx11, _, _ => cases hx11
     obtain ⟨y10, rfl, c0, r0, r1, k0, k1⟩ := hp
     refine q_ret ?_
     refine c_val val_c ?_
     obtain rfl := k1 (by decide)
     exact hQ _ c0
   ·
     obtain ⟨v0, F0, d0, v1, F1, d1, r, rfl, r0, r1, hm, hQ⟩ := h
     refine ⟨_, pss_cons (ps_if (pt_cmpR op_isN1 (pv 1) pe_non (nomark _)) (pss_cons ps_never pss_nil) pss_nil)
     (pss_cons (ps_if (pt_val (pe_callB (cl_isi (K := K)) (by rfl) B.isinstance (by decide +kernel) (pa_cons (pv 1) (pa_cons (pe_bltn (v := .ty "bool") (by rfl) B.bool (by decide +kernel) rfl) pa_nil)))) (pss_cons ps_never pss_nil) pss_nil)
     (pss_cons (ps_if (pt_val (pe_callB (cl_isi (K := K)) (by rfl) B.isinstance (by decide +kernel) (pa_cons (pv 1) (pa_cons (pe_bltn (v := .ty "int") (by rfl) B.int (by decide +kernel) rfl) pa_nil)))) (pss_cons ps_never pss_nil) pss_nil)
     (pss_cons (ps_if (pt_val (pe_callB (cl_isi (K := K)) (by rfl) B.isinstance (by decide +kernel) (pa_cons (pv 1) (pa_cons (pe_bltn (v := .ty "str") (by rfl) B.str (by decide +kernel) rfl) pa_nil)))) (pss_cons ps_never pss_nil) pss_nil)
     (pss_cons (ps_if (PW.pt (pw_and (pt_val (pe_callB (cl_isi (K := K)) (by rfl) B.isinstance (by decide +kernel) (pa_cons (pv 1) (pa_cons (pe_bltn (v := .ty "list") (by rfl) B.list (by decide +kernel) rfl) pa_nil)))) (pw_and1 (pt_not (pt_val (pe_callB (cl_isi (K := K)) (by rfl) B.isinstance (by decide +kernel) (pa_cons (pv 0) (pa_cons (pe_bltn (v := .ty "list") (by rfl) B.list (by decide +kernel) rfl) pa_nil)))))))) (pss_cons (ps_ret pe_bl) pss_nil) (pss_nil))
     (pss_cons (ps_if (PW.pt (pw_and (pt_val (pe_callB (cl_isi (K := K)) (by rfl) B.isinstance (by decide +kernel) (pa_cons (pv 1) (pa_cons (pe_bltn (v := .ty "tuple") (by rfl) B.tuple (by decide +kernel) rfl) pa_nil)))) (pw_and1 (pt_not (pt_val (pe_callB (cl_isi (K := K)) (by rfl) B.isinstance (by decide +kernel) (pa_cons (pv 0) (pa_cons (pe_bltn (v := .ty "tuple") (by rfl) B.tuple (by decide +kernel) rfl) pa_nil)))))))) (pss_cons (ps_ret pe_bl) pss_nil) (pss_nil))
     (pss_cons (ps_if (pt_cmpR op_ne (pe_callB (cl_len (K := K)) (by rfl) B.len PySem.boot_len (pa_cons (pv 0) pa_nil)) (pe_callB (cl_len (K := K)) (by rfl) B.len PySem.boot_len (pa_cons (pv 1) pa_nil)) (nomark _)) (pss_cons (ps_ret pe_bl) pss_nil) (pss_nil))
     (pss_cons (ps_for PassesOwn.never rfl (pi_range1 (by rfl) B.range (pa_cons (pe_callB (cl_len (K := K)) (by rfl) B.len PySem.boot_len (pa_cons (pv 1) pa_nil)) pa_nil)) (pg_name (i := 2) sc_l_alike.nd rfl (.inl rfl)) (pss_cons (ps_if (pt_not (pt_val (pe_two (pe_cc C_l_alike_vb hr (pa_cons (pe_ix (ix_t (K := K)) (pv 0) (pv 2) (fun _ _ => rfl)) (pa_cons (pe_ix (ix_t (K := K)) (pv 1) (pv 2) (fun _ _ => rfl)) pa_nil))) (pe_cc C_l_alike_vl hr (pa_cons (pe_ix (ix_t (K := K)) (pv 0) (pv 2) (fun _ _ => rfl)) (pa_cons (pe_ix (ix_t (K := K)) (pv 1) (pv 2) (fun _ _ => rfl)) pa_nil)))))) (pss_cons (ps_ret pe_bl) pss_nil) (pss_nil))
     (pss_nil)))
     (pss_cons (ps_ret pe_bl) pss_nil)))))))), ?_⟩
     have c0 : Chg ([] : List Addr) H0 H0 := Chg.refl H0
     unfold Mi.m_l_alike_1 at hm
     refine q_if (ans_t (val_isN (opt_i (nn_tup r1) r1) (val_var rfl))) (fun hb => nomatch hb) (fun hb => ?_)
     refine w_fall ?_
     refine q_if (ans_B (val_isi (val_var rfl) (ty_tup r1) (n := "tuple") (m := "bool") (b := false) (by decide +kernel))) (fun hb => nomatch hb) (fun hb => ?_)
     refine w_fall ?_
     refine q_if (ans_B (val_isi (val_var rfl) (ty_tup r1) (n := "tuple") (m := "int") (b := false) (by decide +kernel))) (fun hb => nomatch hb) (fun hb => ?_)
     refine w_fall ?_
     refine q_if (ans_B (val_isi (val_var rfl) (ty_tup r1) (n := "tuple") (m := "str") (b := false) (by decide +kernel))) (fun hb => nomatch hb) (fun hb => ?_)
     refine w_fall ?_
     refine q_if (ans_andB (ans_B (val_isi (val_var rfl) (ty_tup r1) (n := "tuple") (m := "list") (b := false) (by decide +kernel))) (fun _ => (ans_N (ans_B (val_isi (val_var rfl) (ty_tup r0) (n := "tuple") (m := "list") (b := false) (by decide +kernel)))))) (fun hb => ?_) (fun hb => ?_)
     · replace hm := Mi.ifT hb hm
       refine q_ret ?_
       refine c_val val_c ?_
       obtain rfl := Option.some.inj hm
       exact hQ _ c0
     replace hm := Mi.ifF hb hm
     refine w_fall ?_
     refine q_if (ans_andB (ans_B (val_isi (val_var rfl) (ty_tup r1) (n := "tuple") (m := "tuple") (b := true) (by decide +kernel))) (fun _ => (ans_N (ans_B (val_isi (val_var rfl) (ty_tup r0) (n := "tuple") (m := "tuple") (b := true) (by decide +kernel)))))) (fun hb => ?_) (fun hb => ?_)
     · replace hm := Mi.ifT hb hm
       refine q_ret ?_
       refine c_val val_c ?_
       obtain rfl := Option.some.inj hm
       exact hQ _ c0
     replace hm := Mi.ifF hb hm
     refine w_fall ?_
     refine q_if (ans_t (val_neI (val_lenU (n := 2) (lens_cons lens_one) r0 (val_var rfl)) (val_lenU (n := 2) (lens_cons lens_one) r1 (val_var rfl)))) (fun hb => ?_) (fun hb => ?_)
     · replace hm := Mi.ifT hb hm
       refine q_ret ?_
       refine c_val val_c ?_
       obtain rfl := Option.some.inj hm
       exact hQ _ c0
     replace hm := Mi.ifF hb hm
     refine w_fall ?_
     refine q_for ?_
     refine w_iRng1 ?_
     refine w_args (va_cons (val_lenU (n := 2) (lens_cons lens_one) r1 (val_var rfl)) va_nil) ?_
     obtain ⟨q6, hq6, hm⟩ := Mi.bnd hm
     refine l_rng1 (xs := [0, 1]) (by rfl) (fun i σ' H' => ∃ (y10 : Option V), σ' = [some v0, some v1, y10] ∧ Chg ([] : List Addr) H0 H' ∧ (yTup (sCons yBool (sOne (yLst (yTupL (ySum yInt (ySum yStr (ySum yBool (ySum (yTupL yInt) (yTupL yBool)))))))))).rep K H' F0 v0 d0 ∧ (yTup (sCons yBool (sOne (yLst (yTupL (ySum yInt (ySum yStr (ySum yBool (ySum (yTupL yInt) (yTupL yBool)))))))))).rep K H' F1 v1 d1 ∧ (i ≠ 0 → q6 = true) ∧ (2 ≤ i → r = true)) ⟨none, rfl, c0, r0, r1, fun h => (h rfl).elim, fun h => by omega⟩ (fun i13 x12 σ' H' hx11 hp => ?_) (fun σ' H' hp => ?_)
     · obtain ⟨y10, rfl, c0, r0, r1, k0, k1⟩ := hp
       refine g_name (σ' := [some v0, some v1, some (.int x12)]) rfl ?_
       refine q_ifS ?_
       refine w_not ?_
       refine w_B ?_
       match i13, hx11, k0, k1 with
       | 0, hx11, k0, k1 =>
         cases Option.some.inj hx11
         refine w_two1 ?_
         refine w_call ?_
         obtain ⟨w1, G1, ⟨t1, rfl⟩, _, _, kk1⟩ := itm_tup (n := 0) at0 r0
         obtain ⟨w2, G2, ⟨t2, rfl⟩, _, _, kk2⟩ := itm_tup (n := 0) at0 r1
         refine w_args (va_cons (kk1 (val_var rfl) (val_var rfl)) (va_cons (kk2 (val_var rfl) (val_var rfl)) va_nil)) ?_
         refine ⟨d0.1, d1.1, q6, rfl, hq6, fun H31 c30 => ?_⟩
         have r0 := Ty.ex r0 c30
         have r1 := Ty.ex r1 c30
         have c0 := c0.trans c30.none
         refine ⟨_, rfl, ?_⟩
         refine c_if (fun hb => ?_) (fun hb => ?_)
         · replace hm := Mi.ifT hb hm
           refine q_ret ?_
           refine c_val val_c ?_
           obtain rfl := Option.some.inj hm
           exact hQ _ c0
         · refine w_fall ?_
           refine w_nextJ ?_
           exact ⟨(some (.int 0)), rfl, c0, r0, r1, fun _ => by cases q6 with | false => cases hb | true => rfl, fun h => by omega⟩
       | 1, hx11, k0, k1 =>
         cases Option.some.inj hx11
         have e6 := k0 (by decide)
         rw [e6] at hm
         replace hm := Mi.ifF (by decide) hm
         obtain ⟨q1, hq1, hm⟩ := Mi.bnd hm
         refine w_two2 ?_
         refine w_call ?_
         obtain ⟨w1, G1, t1, _, _, kk1⟩ := itm_tup (n := 1) (atS at1) r0
         obtain ⟨w2, G2, t2, _, _, kk2⟩ := itm_tup (n := 1) (atS at1) r1
         refine w_args (va_cons (kk1 (val_var rfl) (val_var rfl)) (va_cons (kk2 (val_var rfl) (val_var rfl)) va_nil)) ?_
         refine ⟨w1, G1, d0.2, w2, G2, d1.2, q1, rfl, t1, t2, hq1, fun H31 c30 => ?_⟩
         have r0 := Ty.ex r0 c30
         have r1 := Ty.ex r1 c30
         have c0 := c0.trans c30.none
         refine ⟨_, rfl, ?_⟩
         refine c_if (fun hb => ?_) (fun hb => ?_)
         · replace hm := Mi.ifT hb hm
           refine q_ret ?_
           refine c_val val_c ?_
           obtain rfl := Option.some.inj hm
           exact hQ _ c0
         · replace hm := Mi.ifF hb hm
           refine w_fall ?_
           refine w_nextJ ?_
           exact ⟨(some (.int 1)), rfl, c0, r0, r1, fun _ => e6, fun _ => (Option.some.inj hm).symm⟩
       | n + 2, hx11, _, _ => cases hx11
     obtain ⟨y10, rfl, c0, r0, r1, k0, k1⟩ := hp
     refine q_ret ?_
     refine c_val val_c ?_
     obtain rfl := k1 (by decide)
     exact hQ _ c0
theorem sc_l_hour : FnScope ["_law_hand_here"] ["_law_hand_here"] (defScope s_l_hour) := ⟨rfl, rfl, rfl, by decide +kernel, rfl, by decide +kernel, by decide +kernel⟩
def sp_l_hour (K : PySem.W.Frag) : Sp := fun vs H Q _ => ∃ (v0 : V) (F0 : List Addr) (d0 : (List Int)) (r : (Int × (List Int))), vs = [v0] ∧ (yLst yInt).rep K H F0 v0 d0 ∧ Mi.m_l_hour d0 = some r ∧ ∀ H', Chg (F0) H H' → (yLst yInt).rep K H' F0 v0 r.2 → Q (.int r.1) H'
theorem ok_l_hour (B : Bi mg) (CN : Cs w K mg) (D : Dfn K mg "_law_hour" s_l_hour) (C_l_pick : Cal P w K mg "_law_pick" ["_law_hand_here", "_law_size"] 1 (sp_l_pick K)) : Cal P w K mg "_law_hour" ["_law_hand_here"] 2 (sp_l_hour K) := by
 obtain ⟨f, fd, F, g⟩ := D.ex
 refine ⟨f, fd, g, F.kp, bindsF F (fun _ _ _ _ _ _ us hl => match us, hl with | [_], _ => rfl), fun base => F.ok sc_l_hour (fun vs H Q E h => ?_) (fun cdv A outer s H0 vs Q E hr h => ?_)⟩
 · obtain ⟨v0, F0, d0, r, rfl, r0, hm, hQ⟩ := h; rfl
 ·
   obtain ⟨v0, F0, d0, r, rfl, r0, hm, hQ⟩ := h
   refine ⟨_, pss_cons (ps_ret (pe_cc C_l_pick hr (pa_cons (pv 0) (pa_cons (pe_ix (ix_l (K := K)) (pe_lst (pa_cons pe_int (pa_cons pe_int (pa_cons pe_int pa_nil)))) (pe_cc C_l_pick hr (pa_cons (pv 0) (pa_cons pe_int pa_nil))) (fun _ _ => rfl)) pa_nil)))) pss_nil, ?_⟩
   have c0 : Chg (F0) H0 H0 := Chg.refl H0
   unfold Mi.m_l_hour at hm
   refine q_ret ?_
   refine w_call ?_
   refine w_cons ?_
   refine c_val (val_var rfl) ?_
   refine w_cons ?_
   refine w_op ?_
   refine w_lst ?_
   refine w_args (va_cons val_c (va_cons val_c (va_cons val_c va_nil))) ?_
   refine e_lst (K := K) (τ := yInt) (by exact Nat.le_of_ble_eq_true rfl) (.cons yInt_i (.cons yInt_i (.cons yInt_i .nil))) fun p2 H6 np5 c3 r4 => ?_
   have d7 : Dj F0 [p2] := Ty.nin r0 np5
   have n8 : ∀ a ∈ [p2], H0 a = none := one_fresh (c0.dom p2 np5)
   have r0 := Ty.ex r0 c3
   have c0 := c0.trans c3.none
   refine w_call ?_
   refine w_args (va_cons (val_var rfl) (va_cons val_c va_nil)) ?_
   obtain ⟨q9, hq9, hm⟩ := Mi.bnd hm
   refine ⟨v0, F0, d0, (3 : Int), q9, rfl, r0, hq9, fun H11 c10 r0 => ?_⟩
   have r4 := Ty.chg r4 c10 d7.symm
   have c0 := c0.join c10 (fun a h => .inl (h))
   obtain ⟨x12, hx12, hm⟩ := Mi.bnd hm
   refine w_ixL r4 hx12 fun u13 r14 => ?_
   obtain ⟨_, rfl⟩ := r14
   refine w_nil ?_
   obtain ⟨q15, hq15, hm⟩ := Mi.bnd hm
   refine ⟨v0, F0, q9.2, x12, q15, rfl, r0, hq15, fun H17 c16 r0 => ?_⟩
   have c0 := c0.join c16 (fun a h => .inl (h))
   obtain rfl := Option.some.inj hm
   exact hQ _ c0 r0
theorem sc_l_zone : FnScope ["_law_hand_here", "_law_share"] ["_law_hand_here"] (defScope s_l_zone) := ⟨rfl, rfl, rfl, by decide +kernel, rfl, by decide +kernel, by decide +kernel⟩
def sp_l_zone (K : PySem.W.Frag) : Sp := fun vs H Q _ => ∃ (v0 : V) (F0 : List Addr) (d0 : (List Int)) (r : ((List Int) × (List Int))), vs = [v0] ∧ (yLst yInt).rep K H F0 v0 d0 ∧ Mi.m_l_zone d0 = some r ∧ ∀ v H', Chg (F0) H H' → (yTupL yInt).rep K H' [] v r.1 → (yLst yInt).rep K H' F0 v0 r.2 → Q v H'
theorem ok_l_zone (B : Bi mg) (CN : Cs w K mg) (D : Dfn K mg "_law_zone" s_l_zone) (C_l_pick : Cal P w K mg "_law_pick" ["_law_hand_here", "_law_size"] 1 (sp_l_pick K)) (C_l_some : Cal P w K mg "_law_some" ["_law_hand_here", "_law_size", "_law_share"] 2 (sp_l_some K)) : Cal P w K mg "_law_zone" ["_law_hand_here"] 3 (sp_l_zone K) := by
 obtain ⟨f, fd, F, g⟩ := D.ex
 refine ⟨f, fd, g, F.kp, bindsF F (fun _ _ _ _ _ _ us hl => match us, hl with | [_], _ => rfl), fun base => F.ok sc_l_zone (fun vs H Q E h => ?_) (fun cdv A outer s H0 vs Q E hr h => ?_)⟩
 · obtain ⟨v0, F0, d0, r, rfl, r0, hm, hQ⟩ := h; rfl
 ·
   obtain ⟨v0, F0, d0, r, rfl, r0, hm, hQ⟩ := h
   refine ⟨_, pss_cons (ps_set (i := 1) sc_l_zone.nd rfl (.inl rfl) (pe_cc C_l_pick hr (pa_cons (pv 0) (pa_cons pe_int pa_nil))))
     (pss_cons (ps_if (pt_cmpR op_eq (pv 1) pe_int (nomark _)) (pss_cons (ps_ret (pe_tup pa_nil)) pss_nil) (pss_nil))
     (pss_cons (ps_ret (pe_callTy (cl_tuple (K := K)) (by rfl) B.tuple (by decide +kernel) (pa_cons (pe_cc C_l_some hr (pa_cons (pv 0) (pa_cons pe_int (pa_cons (pv 1) pa_nil)))) pa_nil))) pss_nil)), ?_⟩
   have c0 : Chg (F0) H0 H0 := Chg.refl H0
   unfold Mi.m_l_zone at hm
   refine q_asg ?_
   refine w_call ?_
   refine w_args (va_cons (val_var rfl) (va_cons val_c va_nil)) ?_
   obtain ⟨q2, hq2, hm⟩ := Mi.bnd hm
   refine ⟨v0, F0, d0, (5 : Int), q2, rfl, r0, hq2, fun H4 c3 r0 => ?_⟩
   have c0 := c0.join c3 (fun a h => .inl (h))
   refine g_name (σ' := [some v0, some (.int q2.1)]) rfl ?_
   refine q_if (ans_t (val_eqI (val_var rfl) val_c)) (fun hb => ?_) (fun hb => ?_)
   ·
     replace hm := Mi.ifT hb hm
     refine q_ret ?_
     refine w_tup ?_
     refine w_args va_nil ?_
     refine e_tupl (K := K) (τ := yInt) (xs := ([] : (List Int))) (by exact Nat.le_of_ble_eq_true rfl) .nil fun p5 H9 np8 c6 r7 => ?_
     have r0 := Ty.ex r0 c6
     have c0 := c0.trans c6.none
     obtain rfl := Option.some.inj hm
     exact hQ _ _ c0 r7 r0
   replace hm := Mi.ifF hb hm
   refine w_fall ?_
   refine q_ret ?_
   refine w_cb ?_
   refine w_cons ?_
   refine w_call ?_
   refine w_args (va_cons (val_var rfl) (va_cons val_c (va_cons (val_var rfl) va_nil))) ?_
   obtain ⟨q10, hq10, hm⟩ := Mi.bnd hm
   have r0_old := r0
   refine ⟨v0, F0, q2.2, (12 : Int), q2.1, q10, rfl, r0, hq10, fun v13 H12 F15 c11 r14 fr16 r0 => ?_⟩
   have d17 : Dj F0 F15 := Ty.fresh r0_old fr16
   have n18 : ∀ a ∈ F15, H0 a = none := fun a h => c0.dom a (fr16 a h)
   have c0 := c0.join c11 (fun a h => .inl (h))
   refine w_nil ?_
   refine w_tupleL r14 fun v19 H20 c21 r22 => ?_
   have r0 := Ty.ex r0 c21
   have r14 := Ty.ex r14 c21
   have c0 := c0.trans c21.none
   obtain rfl := Option.some.inj hm
   exact hQ _ _ c0 r22 r0
abbrev N_l_zone_word : List Str := ["_law_zone_here", "_law_place"]
theorem sc_l_zone_word : FnScope ["_law_zone_here", "_law_place"] ["_law_zone_here"] (defScope s_l_zone_word) := ⟨rfl, rfl, rfl, by decide +kernel, rfl, by decide +kernel, by decide +kernel⟩
def sp_l_zone_word (K : PySem.W.Frag) : Sp := fun vs H Q _ => ∃ (v0 : V) (d0 : (List Int)) (r : (List Nat)), vs = [v0] ∧ (yTupL yInt).rep K H [] v0 d0 ∧ Mi.m_l_zone_word d0 = some r ∧ ∀ H', Chg ([]) H H' → Q (.str (toS r)) H'
theorem ok_l_zone_word (B : Bi mg) (CN : Cs w K mg) (D : Dfn K mg "_law_zone_word" s_l_zone_word)  : Cal P w K mg "_law_zone_word" ["_law_zone_here"] 1 (sp_l_zone_word K) := by
 obtain ⟨f, fd, F, g⟩ := D.ex
 refine ⟨f, fd, g, F.kp, bindsF F (fun _ _ _ _ _ _ us hl => match us, hl with | [_], _ => rfl), fun base => F.ok sc_l_zone_word (fun vs H Q E h => ?_) (fun cdv A outer s H0 vs Q E hr h => ?_)⟩
 · obtain ⟨v0, d0, r, rfl, r0, hm, hQ⟩ := h; rfl
 ·
   obtain ⟨v0, d0, r, rfl, r0, hm, hQ⟩ := h
   refine ⟨_, pss_cons (ps_if (pt_cmpR op_eq (pe_callB (cl_len (K := K)) (by rfl) B.len PySem.boot_len (pa_cons (pv 0) pa_nil)) pe_int (nomark _)) (pss_cons (ps_ret pe_str) pss_nil) (pss_nil))
     (pss_cons (ps_ret (pe_joinQ (K := K) pe_str (pe_lc (own := [("_law_place", 1)]) rfl sc_l_zone_word.nd (pi_tup (pv 0)) (blkOk_by (own := [("_law_place", 1)]) (N := N_l_zone_word) (sc := defScope s_l_zone_word) (by decide +kernel)) (fun _ _ _ _ _ => (pg_name (i := 1) sc_l_zone_word.nd rfl (.inl rfl))) (fun _ _ _ _ _ => pts_nil) (fun _ _ _ _ _ => (pe_callTy cl_strI (by rfl) B.str (by decide +kernel) (pa_cons (pv 1) pa_nil)))))) pss_nil), ?_⟩
   have c0 : Chg ([] : List Addr) H0 H0 := Chg.refl H0
   unfold Mi.m_l_zone_word at hm
   refine q_if (ans_t (val_eqI (val_lenT r0 (val_var rfl)) val_c)) (fun hb => ?_) (fun hb => ?_)
   ·
     replace hm := Mi.ifT hb hm
     refine q_ret ?_
     refine c_val (val_cS (a := ([45] : List Nat)) (by decide +kernel)) ?_
     obtain rfl := Option.some.inj hm
     exact hQ _ c0 
   replace hm := Mi.ifF hb hm
   refine w_fall ?_
   refine q_ret ?_
   refine w_m1 ?_
   refine c_val (val_cS (a := ([44] : List Nat)) (by decide +kernel)) ?_
   refine ⟨⟨_, rfl⟩, ?_⟩
   refine w_lc ?_
   refine w_iTup ?_
   refine c_val (val_var rfl) ?_
   obtain ⟨e2, he2, hm⟩ := Mi.bnd hm
   refine kc_tup (K := K) (τ := yStr) r0 (fun D4 i H' => ∃ (s3 : (List (List Nat))), Chg ([] : List Addr) H0 H' ∧ (yTupL yInt).rep K H' [] v0 d0 ∧ (yLst yStr).rep K H' [D4] (.ref D4) s3 ∧ (∀ a ∈ [D4], H0 a = none) ∧ Mi.forN (Mi.m_l_zone_word_b1) s3 (List.drop i d0) = some e2) (fun D4 H10 np9 c8 r5 => ⟨([] : (List (List Nat))), c0.trans c8.none, (Ty.fz r0 c8), r5, one_fresh (c0.dom D4 np9), he2⟩) (fun D4 i H' hp => by obtain ⟨s3, c0, r0, r5, n7, _⟩ := hp; exact r0) (fun D4 i13 x12 u15 H14 hx11 r16 hp => ?_) (fun D4 H' np9 hp => ?_)
   ·
     obtain ⟨s3, c0, r0, r5, n7, hle2⟩ := hp
     obtain ⟨_, hbe2, hle2⟩ := Mi.forN_go hle2 hx11
     unfold Mi.m_l_zone_word_b1 at hbe2
     obtain ⟨_, rfl⟩ := r16
     refine g_name (σ' := [some v0, some (.int x12)]) rfl ?_
     refine ⟨rfl, ?_⟩
     refine w_yes ?_
     refine iteT ?_
     obtain ⟨x21, hx21, hbe2⟩ := Mi.bnd hbe2
     refine c_val (val_strI hx21 (val_var rfl)) ?_
     obtain ⟨x22, hx22, hbe2⟩ := Mi.bnd hbe2
     refine e_app r5 yStr_i hx22 fun H24 c23 r5 => ?_
     have r0 := Ty.fz r0 c23
     have c0 := c0.join c23 (fun a h => .inr (n7 a h))
     obtain rfl := Option.some.inj hbe2
     exact ⟨x22, c0, r0, r5, n7, hle2⟩
   obtain ⟨s3, c0, r0, r5, n7, hle2⟩ := hp
   obtain rfl := Mi.forN_end hle2
   obtain ⟨x25, hx25, hm⟩ := Mi.bnd hm
   refine w_joinL r5 hx25 ?_
   obtain rfl := Option.some.inj hm
   exact hQ _ c0 
abbrev N_l_deed : List Str := ["_law_hand_here", "_law_kind", "_law_flags", "_law_zone_here", "_law_k"]
theorem sc_l_deed : FnScope ["_law_hand_here", "_law_kind", "_law_flags", "_law_zone_here", "_law_k"] ["_law_hand_here"] (defScope s_l_deed) := ⟨rfl, rfl, rfl, by decide +kernel, rfl, by decide +kernel, by decide +kernel⟩
def sp_l_deed (K : PySem.W.Frag) : Sp := fun vs H Q _ => ∃ (v0 : V) (F0 : List Addr) (d0 : (List Int)) (r : ((List (Int ⊕ (List Nat) ⊕ Bool ⊕ (List Int) ⊕ (List Bool))) × (List Int))), vs = [v0] ∧ (yLst yInt).rep K H F0 v0 d0 ∧ Mi.m_l_deed d0 = some r ∧ ∀ v H', Chg (F0) H H' → (yTupL (ySum yInt (ySum yStr (ySum yBool (ySum (yTupL yInt) (yTupL yBool)))))).rep K H' [] v r.1 → (yLst yInt).rep K H' F0 v0 r.2 → Q v H'
theorem ok_l_deed (B : Bi mg) (CN : Cs w K mg) (D : Dfn K mg "_law_deed" s_l_deed) (C_l_pick : Cal P w K mg "_law_pick" ["_law_hand_here", "_law_size"] 1 (sp_l_pick K)) (C_l_hour : Cal P w K mg "_law_hour" ["_law_hand_here"] 2 (sp_l_hour K)) (C_l_zone : Cal P w K mg "_law_zone" ["_law_hand_here"] 3 (sp_l_zone K)) : Cal P w K mg "_law_deed" ["_law_hand_here"] 4 (sp_l_deed K) := by
 obtain ⟨f, fd, F, g⟩ := D.ex
 refine ⟨f, fd, g, F.kp, bindsF F (fun _ _ _ _ _ _ us hl => match us, hl with | [_], _ => rfl), fun base => F.ok sc_l_deed (fun vs H Q E h => ?_) (fun cdv A outer s H0 vs Q E hr h => ?_)⟩
 · obtain ⟨v0, F0, d0, r, rfl, r0, hm, hQ⟩ := h; rfl
 ·
   obtain ⟨v0, F0, d0, r, rfl, r0, hm, hQ⟩ := h
   refine ⟨_, pss_cons (ps_set (i := 1) sc_l_deed.nd rfl (.inl rfl) (pe_cc C_l_pick hr (pa_cons (pv 0) (pa_cons pe_int pa_nil))))
     (pss_cons (ps_if (pt_cmpR op_eq (pv 1) pe_int (nomark _)) (pss_cons (ps_ret (pe_tup (pa_cons pe_str (pa_cons (pe_cc C_l_hour hr (pa_cons (pv 0) pa_nil)) pa_nil)))) pss_nil) (pss_nil))
     (pss_cons (ps_if (PW.pt (pw_or (pt_cmpR op_eq (pv 1) pe_int (nomark _)) (pw_or1 (pt_cmpR op_eq (pv 1) pe_int (nomark _))))) (pss_cons (ps_set (i := 2) sc_l_deed.nd rfl (.inl rfl) (pe_callTy (cl_tuple (K := K)) (by rfl) B.tuple (by decide +kernel) (pa_cons (pe_lc (own := [("_law_k", 4)]) rfl sc_l_deed.nd (pi_range1 (by rfl) B.range (pa_cons (pe_op op_add pe_int (pe_cc C_l_pick hr (pa_cons (pv 0) (pa_cons pe_int pa_nil)))) pa_nil)) (blkOk_by (own := [("_law_k", 4)]) (N := N_l_deed) (sc := defScope s_l_deed) (by decide +kernel)) (fun _ _ _ _ _ => (pg_name (i := 4) sc_l_deed.nd rfl (.inl rfl))) (fun _ _ _ _ _ => pts_nil) (fun _ _ _ _ _ => (pe_cmpR op_eq (pe_cc C_l_pick hr (pa_cons (pv 0) (pa_cons pe_int pa_nil))) pe_int (nomark _)))) pa_nil)))
     (pss_cons (ps_ret (pe_tup (pa_cons pe_str (pa_cons (pe_cc C_l_pick hr (pa_cons (pv 0) (pa_cons pe_int pa_nil))) (pa_cons (pe_cc C_l_pick hr (pa_cons (pv 0) (pa_cons pe_int pa_nil))) (pa_cons (pe_cc C_l_hour hr (pa_cons (pv 0) pa_nil)) (pa_cons (pv 2) pa_nil))))))) pss_nil)) (pss_nil))
     (pss_cons (ps_set (i := 3) sc_l_deed.nd rfl (.inl rfl) (pe_cc C_l_zone hr (pa_cons (pv 0) pa_nil)))
     (pss_cons (ps_ret (pe_tup (pa_cons pe_str (pa_cons (pe_cc C_l_pick hr (pa_cons (pv 0) (pa_cons pe_int pa_nil))) (pa_cons (pe_cc C_l_hour hr (pa_cons (pv 0) pa_nil)) (pa_cons (pv 3) (pa_cons (pe_cmpR op_eq (pv 1) pe_int (nomark _)) (pa_cons (pe_op op_add pe_int (pe_cc C_l_pick hr (pa_cons (pv 0) (pa_cons pe_int pa_nil)))) pa_nil)))))))) pss_nil)))), ?_⟩
   have c0 : Chg (F0) H0 H0 := Chg.refl H0
   unfold Mi.m_l_deed at hm
   refine q_asg ?_
   refine w_call ?_
   refine w_args (va_cons (val_var rfl) (va_cons val_c va_nil)) ?_
   obtain ⟨q2, hq2, hm⟩ := Mi.bnd hm
   refine ⟨v0, F0, d0, (5 : Int), q2, rfl, r0, hq2, fun H4 c3 r0 => ?_⟩
   have c0 := c0.join c3 (fun a h => .inl (h))
   refine g_name (σ' := [some v0, some (.int q2.1), none, none, none]) rfl ?_
   refine q_if (ans_t (val_eqI (val_var rfl) val_c)) (fun hb => ?_) (fun hb => ?_)
   ·
     replace hm := Mi.ifT hb hm
     refine q_ret ?_
     refine w_tup ?_
     refine w_cons ?_
     refine c_val (val_cS (a := ([119, 105, 116, 104, 100, 114, 97, 119] : List Nat)) (by decide +kernel)) ?_
     refine w_cons ?_
     refine w_call ?_
     refine w_args (va_cons (val_var rfl) va_nil) ?_
     obtain ⟨q5, hq5, hm⟩ := Mi.bnd hm
     refine ⟨v0, F0, q2.2, q5, rfl, r0, hq5, fun H7 c6 r0 => ?_⟩
     have c0 := c0.join c6 (fun a h => .inl (h))
     refine w_nil ?_
     refine e_tupl (K := K) (τ := (ySum yInt (ySum yStr (ySum yBool (ySum (yTupL yInt) (yTupL yBool)))))) (xs := ([(.inr (.inl ([119, 105, 116, 104, 100, 114, 97, 119] : List Nat))), (.inl q5.1)] : (List (Int ⊕ (List Nat) ⊕ Bool ⊕ (List Int) ⊕ (List Bool))))) (by exact Nat.le_of_ble_eq_true rfl) (.cons (sum_r (sum_l yStr_i)) (.cons (sum_l yInt_i) .nil)) fun p8 H12 np11 c9 r10 => ?_
     have r0 := Ty.ex r0 c9
     have c0 := c0.trans c9.none
     obtain rfl := Option.some.inj hm
     exact hQ _ _ c0 r10 r0
   replace hm := Mi.ifF hb hm
   refine w_fall ?_
   refine q_if (ans_orB (ans_t (val_eqI (val_var rfl) val_c)) (fun _ => (ans_t (val_eqI (val_var rfl) val_c)))) (fun hb => ?_) (fun hb => ?_)
   ·
     replace hm := Mi.ifT hb hm
     refine q_asg ?_
     refine w_cb ?_
     refine w_cons ?_
     refine w_lc ?_
     refine w_iRng1 ?_
     refine w_cons ?_
     refine w_op ?_
     refine c_val val_c ?_
     refine w_call ?_
     refine w_args (va_cons (val_var rfl) (va_cons val_c va_nil)) ?_
     obtain ⟨q14, hq14, hm⟩ := Mi.bnd hm
     refine ⟨v0, F0, q2.2, (4 : Int), q14, rfl, r0, hq14, fun H16 c15 r0 => ?_⟩
     have c0 := c0.join c15 (fun a h => .inl (h))
     refine w_I0 ?_
     refine w_nil ?_
     obtain ⟨g17, hg17, hm⟩ := Mi.bnd hm
     obtain ⟨e18, he18, hm⟩ := Mi.bnd hm
     refine kc_rng1 (K := K) (τ := yBool) hg17 (fun D20 i H' => ∃ (s19 : ((List Bool) × (List Int))), Chg (F0) H0 H' ∧ (yLst yInt).rep K H' F0 v0 s19.2 ∧ (yLst yBool).rep K H' [D20] (.ref D20) s19.1 ∧ Dj F0 [D20] ∧ (∀ a ∈ [D20], H0 a = none) ∧ Mi.forN (Mi.m_l_deed_b1) s19 (List.drop i g17) = some e18) (fun D20 H27 np26 c25 r21 => ⟨(([] : (List Bool)), q14.2), c0.trans c25.none, (Ty.ex r0 c25), r21, Ty.nin r0 np26, one_fresh (c0.dom D20 np26), he18⟩) (fun D20 i30 x29 H31 hx28 hp => ?_) (fun D20 H' np26 hp => ?_)
     ·
       obtain ⟨s19, c0, r0, r21, d22, n24, hle18⟩ := hp
       obtain ⟨_, hbe18, hle18⟩ := Mi.forN_go hle18 hx28
       unfold Mi.m_l_deed_b1 at hbe18
       refine g_name (σ' := [some v0, some (.int q2.1), none, none, some (.int x29)]) rfl ?_
       refine ⟨rfl, ?_⟩
       refine w_yes ?_
       refine iteT ?_
       refine w_op ?_
       refine w_call ?_
       refine w_args (va_cons (val_var rfl) (va_cons val_c va_nil)) ?_
       obtain ⟨q38, hq38, hbe18⟩ := Mi.bnd hbe18
       refine ⟨v0, F0, s19.2, (2 : Int), q38, rfl, r0, hq38, fun H40 c39 r0 => ?_⟩
       have r21 := Ty.chg r21 c39 d22.symm
       have c0 := c0.join c39 (fun a h => .inl (h))
       refine c_val val_c ?_
       refine w_eqI ?_
       obtain ⟨x41, hx41, hbe18⟩ := Mi.bnd hbe18
       refine e_app r21 yBool_i hx41 fun H43 c42 r21 => ?_
       have r0 := Ty.chg r0 c42 d22
       have c0 := c0.join c42 (fun a h => .inr (n24 a h))
       obtain rfl := Option.some.inj hbe18
       exact ⟨(x41, q38.2), c0, r0, r21, d22, n24, hle18⟩
     obtain ⟨s19, c0, r0, r21, d22, n24, hle18⟩ := hp
     obtain rfl := Mi.forN_end hle18
     refine w_nil ?_
     refine w_tupleL r21 fun v44 H45 c46 r47 => ?_
     have r0 := Ty.ex r0 c46
     have r21 := Ty.ex r21 c46
     have c0 := c0.trans c46.none
     refine g_name (σ' := [some v0, some (.int q2.1), some v44, none, none]) rfl ?_
     refine q_ret ?_
     refine w_tup ?_
     refine w_cons ?_
     refine c_val (val_cS (a := ([114, 101, 99, 101, 105, 118, 101] : List Nat)) (by decide +kernel)) ?_
     refine w_cons ?_
     refine w_call ?_
     refine w_args (va_cons (val_var rfl) (va_cons val_c va_nil)) ?_
     obtain ⟨q48, hq48, hm⟩ := Mi.bnd hm
     refine ⟨v0, F0, s19.2, (6 : Int), q48, rfl, r0, hq48, fun H50 c49 r0 => ?_⟩
     have r47 := Ty.fz r47 c49
     have c0 := c0.join c49 (fun a h => .inl (h))
     refine w_cons ?_
     refine w_call ?_
     refine w_args (va_cons (val_var rfl) (va_cons val_c va_nil)) ?_
     obtain ⟨q51, hq51, hm⟩ := Mi.bnd hm
     refine ⟨v0, F0, q48.2, (7 : Int), q51, rfl, r0, hq51, fun H53 c52 r0 => ?_⟩
     have r47 := Ty.fz r47 c52
     have c0 := c0.join c52 (fun a h => .inl (h))
     refine w_cons ?_
     refine w_call ?_
     refine w_args (va_cons (val_var rfl) va_nil) ?_
     obtain ⟨q54, hq54, hm⟩ := Mi.bnd hm
     refine ⟨v0, F0, q51.2, q54, rfl, r0, hq54, fun H56 c55 r0 => ?_⟩
     have r47 := Ty.fz r47 c55
     have c0 := c0.join c55 (fun a h => .inl (h))
     refine w_cons ?_
     refine c_val (val_var rfl) ?_
     refine w_nil ?_
     refine e_tupl (K := K) (τ := (ySum yInt (ySum yStr (ySum yBool (ySum (yTupL yInt) (yTupL yBool)))))) (xs := ([(.inr (.inl ([114, 101, 99, 101, 105, 118, 101] : List Nat))), (.inl q48.1), (.inl q51.1), (.inl q54.1), (.inr (.inr (.inr (.inr s19.1))))] : (List (Int ⊕ (List Nat) ⊕ Bool ⊕ (List Int) ⊕ (List Bool))))) (by exact Nat.le_of_ble_eq_true rfl) (.cons (sum_r (sum_l yStr_i)) (.cons (sum_l yInt_i) (.cons (sum_l yInt_i) (.cons (sum_l yInt_i) (.cons (sum_r (sum_r (sum_r (sum_r r47)))) .nil))))) fun p57 H61 np60 c58 r59 => ?_
     have r0 := Ty.ex r0 c58
     have r47 := Ty.fz r47 c58
     have c0 := c0.trans c58.none
     obtain rfl := Option.some.inj hm
     exact hQ _ _ c0 r59 r0
   replace hm := Mi.ifF hb hm
   refine w_fall ?_
   refine q_asg ?_
   refine w_call ?_
   refine w_args (va_cons (val_var rfl) va_nil) ?_
   obtain ⟨q62, hq62, hm⟩ := Mi.bnd hm
   refine ⟨v0, F0, q2.2, q62, rfl, r0, hq62, fun v65 H64 c63 r66 r0 => ?_⟩
   have c0 := c0.join c63 (fun a h => .inl (h))
   refine g_name (σ' := [some v0, some (.int q2.1), none, some v65, none]) rfl ?_
   refine q_ret ?_
   refine w_tup ?_
   refine w_cons ?_
   refine c_val (val_cS (a := ([114, 101, 112, 111, 114, 116] : List Nat)) (by decide +kernel)) ?_
   refine w_cons ?_
   refine w_call ?_
   refine w_args (va_cons (val_var rfl) (va_cons val_c va_nil)) ?_
   obtain ⟨q67, hq67, hm⟩ := Mi.bnd hm
   refine ⟨v0, F0, q62.2, (4 : Int), q67, rfl, r0, hq67, fun H69 c68 r0 => ?_⟩
   have r66 := Ty.fz r66 c68
   have c0 := c0.join c68 (fun a h => .inl (h))
   refine w_cons ?_
   refine w_call ?_
   refine w_args (va_cons (val_var rfl) va_nil) ?_
   obtain ⟨q70, hq70, hm⟩ := Mi.bnd hm
   refine ⟨v0, F0, q67.2, q70, rfl, r0, hq70, fun H72 c71 r0 => ?_⟩
   have r66 := Ty.fz r66 c71
   have c0 := c0.join c71 (fun a h => .inl (h))
   refine w_cons ?_
   refine c_val (val_var rfl) ?_
   refine w_cons ?_
   refine c_val (val_eqI (val_var rfl) val_c) ?_
   refine w_cons ?_
   refine w_op ?_
   refine c_val val_c ?_
   refine w_call ?_
   refine w_args (va_cons (val_var rfl) (va_cons val_c va_nil)) ?_
   obtain ⟨q73, hq73, hm⟩ := Mi.bnd hm
   refine ⟨v0, F0, q70.2, (99 : Int), q73, rfl, r0, hq73, fun H75 c74 r0 => ?_⟩
   have r66 := Ty.fz r66 c74
   have c0 := c0.join c74 (fun a h => .inl (h))
   refine w_I0 ?_
   refine w_nil ?_
   refine e_tupl (K := K) (τ := (ySum yInt (ySum yStr (ySum yBool (ySum (yTupL yInt) (yTupL yBool)))))) (xs := ([(.inr (.inl ([114, 101, 112, 111, 114, 116] : List Nat))), (.inl q67.1), (.inl q70.1), (.inr (.inr (.inr (.inl q62.1)))), (.inr (.inr (.inl (decide (q2.1 = (3 : Int)))))), (.inl ((1 : Int) + q73.1))] : (List (Int ⊕ (List Nat) ⊕ Bool ⊕ (List Int) ⊕ (List Bool))))) (by exact Nat.le_of_ble_eq_true rfl) (.cons (sum_r (sum_l yStr_i)) (.cons (sum_l yInt_i) (.cons (sum_l yInt_i) (.cons (sum_r (sum_r (sum_r (sum_l r66)))) (.cons (sum_r (sum_r (sum_l yBool_i))) (.cons (sum_l yInt_i) .nil)))))) fun p76 H80 np79 c77 r78 => ?_
   have r0 := Ty.ex r0 c77
   have r66 := Ty.fz r66 c77
   have c0 := c0.trans c77.none
   obtain rfl := Option.some.inj hm
   exact hQ _ _ c0 r78 r0
abbrev N_l_row : List Str := ["_law_deed_here", "_law_signs", "_law_side", "_law_place", "_law_flag"]
theorem sc_l_row : FnScope ["_law_deed_here", "_law_signs", "_law_side", "_law_place", "_law_flag"] ["_law_deed_here"] (defScope s_l_row) := ⟨rfl, rfl, rfl, by decide +kernel, rfl, by decide +kernel, by decide +kernel⟩
def sp_l_row (K : PySem.W.Frag) : Sp := fun vs H Q _ => ∃ (v0 : V) (d0 : (List (Int ⊕ (List Nat) ⊕ Bool ⊕ (List Int) ⊕ (List Bool)))) (r : (List Nat)), vs = [v0] ∧ (yTupL (ySum yInt (ySum yStr (ySum yBool (ySum (yTupL yInt) (yTupL yBool)))))).rep K H [] v0 d0 ∧ Mi.m_l_row d0 = some r ∧ ∀ H', Chg ([]) H H' → Q (.str (toS r)) H'
theorem ok_l_row (B : Bi mg) (CN : Cs w K mg) (D : Dfn K mg "_law_row" s_l_row) (C_l_zone_word : Cal P w K mg "_law_zone_word" ["_law_zone_here"] 1 (sp_l_zone_word K)) : Cal P w K mg "_law_row" ["_law_deed_here"] 2 (sp_l_row K) := by
 obtain ⟨f, fd, F, g⟩ := D.ex
 refine ⟨f, fd, g, F.kp, bindsF F (fun _ _ _ _ _ _ us hl => match us, hl with | [_], _ => rfl), fun base => F.ok sc_l_row (fun vs H Q E h => ?_) (fun cdv A outer s H0 vs Q E hr h => ?_)⟩
 · obtain ⟨v0, d0, r, rfl, r0, hm, hQ⟩ := h; rfl
 ·
   obtain ⟨v0, d0, r, rfl, r0, hm, hQ⟩ := h
   refine ⟨_, pss_cons (ps_if (pt_cmpR op_eq (pe_ix (ix_t (K := K)) (pv 0) pe_int (fun _ _ => rfl)) pe_str (nomark _)) (pss_cons (ps_ret (pe_op op_catS pe_str (pe_callTy cl_strI (by rfl) B.str (by decide +kernel) (pa_cons (pe_ix (ix_t (K := K)) (pv 0) pe_int (fun _ _ => rfl)) pa_nil)))) pss_nil) (pss_nil))
     (pss_cons (ps_if (pt_cmpR op_eq (pe_ix (ix_t (K := K)) (pv 0) pe_int (fun _ _ => rfl)) pe_str (nomark _)) (pss_cons (ps_set (i := 1) sc_l_row.nd rfl (.inl rfl) (pe_joinQ (K := K) pe_str (pe_lc (own := [("_law_flag", 4)]) rfl sc_l_row.nd (pi_tup (pe_ix (ix_t (K := K)) (pv 0) pe_int (fun _ _ => rfl))) (blkOk_by (own := [("_law_flag", 4)]) (N := N_l_row) (sc := defScope s_l_row) (by decide +kernel)) (fun _ _ _ _ _ => (pg_name (i := 4) sc_l_row.nd rfl (.inl rfl))) (fun _ _ _ _ _ => pts_nil) (fun _ _ _ _ _ => (pe_ix ix_str pe_str (pe_callTy cl_int (by rfl) B.int (by decide +kernel) (pa_cons (pv 4) pa_nil)) (fun _ _ => rfl))))))
     (pss_cons (ps_ret (pe_op op_catS (pe_op op_catS (pe_op op_catS (pe_op op_catS (pe_op op_catS (pe_op op_catS (pe_op op_catS pe_str (pe_callTy cl_strI (by rfl) B.str (by decide +kernel) (pa_cons (pe_ix (ix_t (K := K)) (pv 0) pe_int (fun _ _ => rfl)) pa_nil))) pe_str) (pe_callTy cl_strI (by rfl) B.str (by decide +kernel) (pa_cons (pe_ix (ix_t (K := K)) (pv 0) pe_int (fun _ _ => rfl)) pa_nil))) pe_str) (pe_callTy cl_strI (by rfl) B.str (by decide +kernel) (pa_cons (pe_ix (ix_t (K := K)) (pv 0) pe_int (fun _ _ => rfl)) pa_nil))) pe_str) (pv 1))) pss_nil)) (pss_nil))
     (pss_cons (ps_set (i := 2) sc_l_row.nd rfl (.inl rfl) (pe_ix (ix_l (K := K)) (pe_lst (pa_cons pe_str (pa_cons pe_str pa_nil))) (pe_callTy cl_int (by rfl) B.int (by decide +kernel) (pa_cons (pe_ix (ix_t (K := K)) (pv 0) pe_int (fun _ _ => rfl)) pa_nil)) (fun _ _ => rfl)))
     (pss_cons (ps_set (i := 3) sc_l_row.nd rfl (.inl rfl) (pe_op op_catS (pe_op op_catS (pe_op op_catS (pe_op op_catS (pe_op op_catS pe_str (pe_callTy cl_strI (by rfl) B.str (by decide +kernel) (pa_cons (pe_ix (ix_t (K := K)) (pv 0) pe_int (fun _ _ => rfl)) pa_nil))) pe_str) (pe_callTy cl_strI (by rfl) B.str (by decide +kernel) (pa_cons (pe_ix (ix_t (K := K)) (pv 0) pe_int (fun _ _ => rfl)) pa_nil))) (pv 2)) (pe_cc C_l_zone_word hr (pa_cons (pe_ix (ix_t (K := K)) (pv 0) pe_int (fun _ _ => rfl)) pa_nil))))
     (pss_cons (ps_ret (pe_op op_catS (pe_op op_catS (pv 3) pe_str) (pe_callTy cl_strI (by rfl) B.str (by decide +kernel) (pa_cons (pe_ix (ix_t (K := K)) (pv 0) pe_int (fun _ _ => rfl)) pa_nil)))) pss_nil)))), ?_⟩
   have c0 : Chg ([] : List Addr) H0 H0 := Chg.refl H0
   unfold Mi.m_l_row at hm
   obtain ⟨x2, hx2, hm⟩ := Mi.bnd hm
   obtain ⟨u3, r4, ku5⟩ := itm_T r0 hx2
   obtain ⟨x6, hx6, hm⟩ := Mi.bnd hm
   have r7 := sum_R r4 hx6
   obtain ⟨x8, hx8, hm⟩ := Mi.bnd hm
   have r9 := sum_L r7 hx8
   obtain ⟨_, rfl⟩ := r9
   refine q_if (ans_t (val_eqS (ku5 (val_var rfl) val_c) (val_cS (a := ([119, 105, 116, 104, 100, 114, 97, 119] : List Nat)) (by decide +kernel)))) (fun hb => ?_) (fun hb => ?_)
   ·
     replace hm := Mi.ifT hb hm
     refine q_ret ?_
     obtain ⟨x10, hx10, hm⟩ := Mi.bnd hm
     obtain ⟨u11, r12, ku13⟩ := itm_T r0 hx10
     obtain ⟨x14, hx14, hm⟩ := Mi.bnd hm
     have r15 := sum_L r12 hx14
     obtain ⟨_, rfl⟩ := r15
     obtain ⟨x16, hx16, hm⟩ := Mi.bnd hm
     obtain ⟨x17, hx17, hm⟩ := Mi.bnd hm
     refine c_val (val_catS hx17 (val_cS (a := ([119, 105, 116, 104, 100, 114, 97, 119, 32] : List Nat)) (by decide +kernel)) (val_strI hx16 (ku13 (val_var rfl) val_c))) ?_
     obtain rfl := Option.some.inj hm
     exact hQ _ c0 
   replace hm := Mi.ifF hb hm
   refine w_fall ?_
   obtain ⟨x18, hx18, hm⟩ := Mi.bnd hm
   obtain ⟨u19, r20, ku21⟩ := itm_T r0 hx18
   obtain ⟨x22, hx22, hm⟩ := Mi.bnd hm
   have r23 := sum_R r20 hx22
   obtain ⟨x24, hx24, hm⟩ := Mi.bnd hm
   have r25 := sum_L r23 hx24
   obtain ⟨_, rfl⟩ := r25
   refine q_if (ans_t (val_eqS (ku21 (val_var rfl) val_c) (val_cS (a := ([114, 101, 99, 101, 105, 118, 101] : List Nat)) (by decide +kernel)))) (fun hb => ?_) (fun hb => ?_)
   ·
     replace hm := Mi.ifT hb hm
     refine q_asg ?_
     refine w_m1 ?_
     refine c_val (val_cS (a := ([] : List Nat)) (by decide +kernel)) ?_
     refine ⟨⟨_, rfl⟩, ?_⟩
     refine w_lc ?_
     refine w_iTup ?_
     obtain ⟨x26, hx26, hm⟩ := Mi.bnd hm
     obtain ⟨u27, r28, ku29⟩ := itm_T r0 hx26
     obtain ⟨x30, hx30, hm⟩ := Mi.bnd hm
     have r31 := sum_R r28 hx30
     obtain ⟨x32, hx32, hm⟩ := Mi.bnd hm
     have r33 := sum_R r31 hx32
     obtain ⟨x34, hx34, hm⟩ := Mi.bnd hm
     have r35 := sum_R r33 hx34
     obtain ⟨x36, hx36, hm⟩ := Mi.bnd hm
     have r37 := sum_R r35 hx36
     refine c_val (ku29 (val_var rfl) val_c) ?_
     obtain ⟨e38, he38, hm⟩ := Mi.bnd hm
     refine kc_tup (K := K) (τ := yStr) r37 (fun D40 i H' => ∃ (s39 : (List (List Nat))), Chg ([] : List Addr) H0 H' ∧ (yTupL (ySum yInt (ySum yStr (ySum yBool (ySum (yTupL yInt) (yTupL yBool)))))).rep K H' [] v0 d0 ∧ (yTupL yBool).rep K H' [] u27 x36 ∧ (yLst yStr).rep K H' [D40] (.ref D40) s39 ∧ (∀ a ∈ [D40], H0 a = none) ∧ Mi.forN (Mi.m_l_row_b1) s39 (List.drop i x36) = some e38) (fun D40 H46 np45 c44 r41 => ⟨([] : (List (List Nat))), c0.trans c44.none, (Ty.fz r0 c44), (Ty.fz r37 c44), r41, one_fresh (c0.dom D40 np45), he38⟩) (fun D40 i H' hp => by obtain ⟨s39, c0, r0, r37, r41, n43, _⟩ := hp; exact r37) (fun D40 i49 x48 u51 H50 hx47 r52 hp => ?_) (fun D40 H' np45 hp => ?_)
     ·
       obtain ⟨s39, c0, r0, r37, r41, n43, hle38⟩ := hp
       obtain ⟨_, hbe38, hle38⟩ := Mi.forN_go hle38 hx47
       unfold Mi.m_l_row_b1 at hbe38
       obtain ⟨_, rfl⟩ := r52
       refine g_name (σ' := [some v0, none, none, none, some (.bl x48)]) rfl ?_
       refine ⟨rfl, ?_⟩
       refine w_yes ?_
       refine iteT ?_
       obtain ⟨x57, hx57, hbe38⟩ := Mi.bnd hbe38
       refine c_val (val_ixS hx57 (val_cS (a := ([110, 121] : List Nat)) (by decide +kernel)) (val_intB (val_var rfl))) ?_
       obtain ⟨x58, hx58, hbe38⟩ := Mi.bnd hbe38
       refine e_app r41 yStr_i hx58 fun H60 c59 r41 => ?_
       have r0 := Ty.fz r0 c59
       have r37 := Ty.fz r37 c59
       have c0 := c0.join c59 (fun a h => .inr (n43 a h))
       obtain rfl := Option.some.inj hbe38
       exact ⟨x58, c0, r0, r37, r41, n43, hle38⟩
     obtain ⟨s39, c0, r0, r37, r41, n43, hle38⟩ := hp
     obtain rfl := Mi.forN_end hle38
     obtain ⟨x61, hx61, hm⟩ := Mi.bnd hm
     refine w_joinL r41 hx61 ?_
     refine g_name (σ' := [some v0, some (.str (toS x61)), none, none, none]) rfl ?_
     refine q_ret ?_
     obtain ⟨x62, hx62, hm⟩ := Mi.bnd hm
     obtain ⟨u63, r64, ku65⟩ := itm_T r0 hx62
     obtain ⟨x66, hx66, hm⟩ := Mi.bnd hm
     have r67 := sum_L r64 hx66
     obtain ⟨_, rfl⟩ := r67
     obtain ⟨x68, hx68, hm⟩ := Mi.bnd hm
     obtain ⟨x69, hx69, hm⟩ := Mi.bnd hm
     obtain ⟨x70, hx70, hm⟩ := Mi.bnd hm
     obtain ⟨x71, hx71, hm⟩ := Mi.bnd hm
     obtain ⟨u72, r73, ku74⟩ := itm_T r0 hx71
     obtain ⟨x75, hx75, hm⟩ := Mi.bnd hm
     have r76 := sum_L r73 hx75
     obtain ⟨_, rfl⟩ := r76
     obtain ⟨x77, hx77, hm⟩ := Mi.bnd hm
     obtain ⟨x78, hx78, hm⟩ := Mi.bnd hm
     obtain ⟨x79, hx79, hm⟩ := Mi.bnd hm
     obtain ⟨x80, hx80, hm⟩ := Mi.bnd hm
     obtain ⟨u81, r82, ku83⟩ := itm_T r0 hx80
     obtain ⟨x84, hx84, hm⟩ := Mi.bnd hm
     have r85 := sum_L r82 hx84
     obtain ⟨_, rfl⟩ := r85
     obtain ⟨x86, hx86, hm⟩ := Mi.bnd hm
     obtain ⟨x87, hx87, hm⟩ := Mi.bnd hm
     obtain ⟨x88, hx88, hm⟩ := Mi.bnd hm
     obtain ⟨x89, hx89, hm⟩ := Mi.bnd hm
     refine c_val (val_catS hx89 (val_catS hx88 (val_catS hx87 (val_catS hx79 (val_catS hx78 (val_catS hx70 (val_catS hx69 (val_cS (a := ([114, 101, 99, 101, 105, 118, 101, 32] : List Nat)) (by decide +kernel)) (val_strI hx68 (ku65 (val_var rfl) val_c))) (val_cS (a := ([32, 101, 118, 101, 110, 116, 32] : List Nat)) (by decide +kernel))) (val_strI hx77 (ku74 (val_var rfl) val_c))) (val_cS (a := ([32, 97, 116, 32] : List Nat)) (by decide +kernel))) (val_strI hx86 (ku83 (val_var rfl) val_c))) (val_cS (a := ([32] : List Nat)) (by decide +kernel))) (val_var rfl)) ?_
     obtain rfl := Option.some.inj hm
     exact hQ _ c0 
   replace hm := Mi.ifF hb hm
   refine w_fall ?_
   refine q_asg ?_
   refine w_op ?_
   refine w_lst ?_
   refine w_args (va_cons (val_cS (a := ([32, 111, 117, 116, 32] : List Nat)) (by decide +kernel)) (va_cons (val_cS (a := ([32, 105, 110, 32] : List Nat)) (by decide +kernel)) va_nil)) ?_
   refine e_lst (K := K) (τ := yStr) (by exact Nat.le_of_ble_eq_true rfl) (.cons yStr_i (.cons yStr_i .nil)) fun p90 H94 np93 c91 r92 => ?_
   have n95 : ∀ a ∈ [p90], H0 a = none := one_fresh (c0.dom p90 np93)
   have r0 := Ty.fz r0 c91
   have c0 := c0.trans c91.none
   obtain ⟨x96, hx96, hm⟩ := Mi.bnd hm
   obtain ⟨u97, r98, ku99⟩ := itm_T r0 hx96
   obtain ⟨x100, hx100, hm⟩ := Mi.bnd hm
   have r101 := sum_R r98 hx100
   obtain ⟨x102, hx102, hm⟩ := Mi.bnd hm
   have r103 := sum_R r101 hx102
   obtain ⟨x104, hx104, hm⟩ := Mi.bnd hm
   have r105 := sum_L r103 hx104
   obtain ⟨_, rfl⟩ := r105
   refine c_val (val_intB (ku99 (val_var rfl) val_c)) ?_
   obtain ⟨x106, hx106, hm⟩ := Mi.bnd hm
   refine w_ixL r92 hx106 fun u107 r108 => ?_
   obtain ⟨_, rfl⟩ := r108
   refine g_name (σ' := [some v0, none, some (.str (toS x106)), none, none]) rfl ?_
   refine q_asg ?_
   refine w_op ?_
   obtain ⟨x109, hx109, hm⟩ := Mi.bnd hm
   obtain ⟨u110, r111, ku112⟩ := itm_T r0 hx109
   obtain ⟨x113, hx113, hm⟩ := Mi.bnd hm
   have r114 := sum_L r111 hx113
   obtain ⟨_, rfl⟩ := r114
   obtain ⟨x115, hx115, hm⟩ := Mi.bnd hm
   obtain ⟨x116, hx116, hm⟩ := Mi.bnd hm
   obtain ⟨x117, hx117, hm⟩ := Mi.bnd hm
   obtain ⟨x118, hx118, hm⟩ := Mi.bnd hm
   obtain ⟨u119, r120, ku121⟩ := itm_T r0 hx118
   obtain ⟨x122, hx122, hm⟩ := Mi.bnd hm
   have r123 := sum_L r120 hx122
   obtain ⟨_, rfl⟩ := r123
   obtain ⟨x124, hx124, hm⟩ := Mi.bnd hm
   obtain ⟨x125, hx125, hm⟩ := Mi.bnd hm
   obtain ⟨x126, hx126, hm⟩ := Mi.bnd hm
   refine c_val (val_catS hx126 (val_catS hx125 (val_catS hx117 (val_catS hx116 (val_cS (a := ([114, 101, 112, 111, 114, 116, 32] : List Nat)) (by decide +kernel)) (val_strI hx115 (ku112 (val_var rfl) val_c))) (val_cS (a := ([32, 97, 116, 32] : List Nat)) (by decide +kernel))) (val_strI hx124 (ku121 (val_var rfl) val_c))) (val_var rfl)) ?_
   refine w_call ?_
   obtain ⟨x127, hx127, hm⟩ := Mi.bnd hm
   obtain ⟨u128, r129, ku130⟩ := itm_T r0 hx127
   obtain ⟨x131, hx131, hm⟩ := Mi.bnd hm
   have r132 := sum_R r129 hx131
   obtain ⟨x133, hx133, hm⟩ := Mi.bnd hm
   have r134 := sum_R r132 hx133
   obtain ⟨x135, hx135, hm⟩ := Mi.bnd hm
   have r136 := sum_R r134 hx135
   obtain ⟨x137, hx137, hm⟩ := Mi.bnd hm
   have r138 := sum_L r136 hx137
   refine w_args (va_cons (ku130 (val_var rfl) val_c) va_nil) ?_
   obtain ⟨q139, hq139, hm⟩ := Mi.bnd hm
   refine ⟨u128, x137, q139, rfl, r138, hq139, fun H141 c140  => ?_⟩
   have r0 := Ty.fz r0 c140
   have c0 := c0.trans c140.none
   obtain ⟨x142, hx142, hm⟩ := Mi.bnd hm
   refine w_catS hx142 ?_
   refine g_name (σ' := [some v0, none, some (.str (toS x106)), some (.str (toS x142)), none]) rfl ?_
   refine q_ret ?_
   obtain ⟨x143, hx143, hm⟩ := Mi.bnd hm
   obtain ⟨x144, hx144, hm⟩ := Mi.bnd hm
   obtain ⟨u145, r146, ku147⟩ := itm_T r0 hx144
   obtain ⟨x148, hx148, hm⟩ := Mi.bnd hm
   have r149 := sum_L r146 hx148
   obtain ⟨_, rfl⟩ := r149
   obtain ⟨x150, hx150, hm⟩ := Mi.bnd hm
   obtain ⟨x151, hx151, hm⟩ := Mi.bnd hm
   refine c_val (val_catS hx151 (val_catS hx143 (val_var rfl) (val_cS (a := ([32, 119, 101, 105, 103, 104, 116, 32] : List Nat)) (by decide +kernel))) (val_strI hx150 (ku147 (val_var rfl) val_c))) ?_
   obtain rfl := Option.some.inj hm
   exact hQ _ c0 
abbrev N_l_lot : List Str := ["_law_script", "_law_start", "_law_count", "_law_k"]
theorem sc_l_lot : FnScope ["_law_script", "_law_start", "_law_count", "_law_k"] ["_law_script", "_law_start", "_law_count"] (defScope s_l_lot) := ⟨rfl, rfl, rfl, by decide +kernel, rfl, by decide +kernel, by decide +kernel⟩
def sp_l_lot (K : PySem.W.Frag) : Sp := fun vs H Q _ => ∃ (v0 : V) (d0 : (List Int)) (d1 : Int) (d2 : Int) (r : (List (List (Int ⊕ (List Nat) ⊕ Bool ⊕ (List Int) ⊕ (List Bool))))), vs = [v0, (.int d1), (.int d2)] ∧ yScr.rep K H [] v0 d0 ∧ Mi.m_l_lot d0 d1 d2 = some r ∧ ∀ v H' F, Chg ([]) H H' → (yLst (yTupL (ySum yInt (ySum yStr (ySum yBool (ySum (yTupL yInt) (yTupL yBool))))))).rep K H' F v r → (∀ a ∈ F, H a = none) → Q v H'
theorem ok_l_lot (B : Bi mg) (CN : Cs w K mg) (D : Dfn K mg "_law_lot" s_l_lot) (C_l_hand : Cal P w K mg "_law_hand" ["_law_script", "_law_k"] 1 (sp_l_hand K)) (C_l_deed : Cal P w K mg "_law_deed" ["_law_hand_here"] 4 (sp_l_deed K)) : Cal P w K mg "_law_lot" ["_law_script", "_law_start", "_law_count"] 5 (sp_l_lot K) := by
 obtain ⟨f, fd, F, g⟩ := D.ex
 refine ⟨f, fd, g, F.kp, bindsF F (fun _ _ _ _ _ _ us hl => match us, hl with | [_, _, _], _ => rfl), fun base => F.ok sc_l_lot (fun vs H Q E h => ?_) (fun cdv A outer s H0 vs Q E hr h => ?_)⟩
 · obtain ⟨v0, d0, d1, d2, r, rfl, r0, hm, hQ⟩ := h; rfl
 ·
   obtain ⟨v0, d0, d1, d2, r, rfl, r0, hm, hQ⟩ := h
   refine ⟨_, pss_cons (ps_ret (pe_lc (own := [("_law_k", 3)]) rfl sc_l_lot.nd (pi_range1 (by rfl) B.range (pa_cons (pv 2) pa_nil)) (blkOk_by (own := [("_law_k", 3)]) (N := N_l_lot) (sc := defScope s_l_lot) (by decide +kernel)) (fun _ _ _ _ _ => (pg_name (i := 3) sc_l_lot.nd rfl (.inl rfl))) (fun _ _ _ _ _ => pts_nil) (fun _ _ _ _ _ => (pe_cc C_l_deed hr (pa_cons (pe_cc C_l_hand hr (pa_cons (pv 0) (pa_cons (pe_op op_add (pv 1) (pv 3)) pa_nil))) pa_nil))))) pss_nil, ?_⟩
   have c0 : Chg ([] : List Addr) H0 H0 := Chg.refl H0
   unfold Mi.m_l_lot at hm
   refine q_ret ?_
   refine w_lc ?_
   refine w_iRng1 ?_
   refine w_args (va_cons (val_var rfl) va_nil) ?_
   obtain ⟨g4, hg4, hm⟩ := Mi.bnd hm
   obtain ⟨e5, he5, hm⟩ := Mi.bnd hm
   refine kc_rng1 (K := K) (τ := (yTupL (ySum yInt (ySum yStr (ySum yBool (ySum (yTupL yInt) (yTupL yBool))))))) hg4 (fun D7 i H' => ∃ (s6 : (List (List (Int ⊕ (List Nat) ⊕ Bool ⊕ (List Int) ⊕ (List Bool))))), Chg ([] : List Addr) H0 H' ∧ yScr.rep K H' [] v0 d0 ∧ (yLst (yTupL (ySum yInt (ySum yStr (ySum yBool (ySum (yTupL yInt) (yTupL yBool))))))).rep K H' [D7] (.ref D7) s6 ∧ (∀ a ∈ [D7], H0 a = none) ∧ Mi.forN (Mi.m_l_lot_b1 d0 d1) s6 (List.drop i g4) = some e5) (fun D7 H13 np12 c11 r8 => ⟨([] : (List (List (Int ⊕ (List Nat) ⊕ Bool ⊕ (List Int) ⊕ (List Bool))))), c0.trans c11.none, (Ty.fz r0 c11), r8, one_fresh (c0.dom D7 np12), he5⟩) (fun D7 i16 x15 H17 hx14 hp => ?_) (fun D7 H' np12 hp => ?_)
   ·
     obtain ⟨s6, c0, r0, r8, n10, hle5⟩ := hp
     obtain ⟨_, hbe5, hle5⟩ := Mi.forN_go hle5 hx14
     unfold Mi.m_l_lot_b1 at hbe5
     refine g_name (σ' := [some v0, some (.int d1), some (.int d2), some (.int x15)]) rfl ?_
     refine ⟨rfl, ?_⟩
     refine w_yes ?_
     refine iteT ?_
     refine w_call ?_
     refine w_cons ?_
     refine w_call ?_
     refine w_args (va_cons (val_var rfl) (va_cons (val_add (val_var rfl) (val_var rfl)) va_nil)) ?_
     obtain ⟨q24, hq24, hbe5⟩ := Mi.bnd hbe5
     refine ⟨v0, d0, (d1 + x15), q24, rfl, r0, hq24, fun v27 H26 F29 c25 r28 fr30  => ?_⟩
     have d31 : Dj [D7] F29 := Ty.fresh r8 fr30
     have n32 : ∀ a ∈ F29, H0 a = none := fun a h => c0.dom a (fr30 a h)
     have r0 := Ty.fz r0 c25
     have r8 := Ty.ex r8 c25
     have c0 := c0.trans c25.none
     refine w_nil ?_
     obtain ⟨q33, hq33, hbe5⟩ := Mi.bnd hbe5
     refine ⟨v27, F29, q24, q33, rfl, r28, hq33, fun v36 H35 c34 r37 r28 => ?_⟩
     have r0 := Ty.fz r0 c34
     have r8 := Ty.chg r8 c34 d31
     have c0 := c0.join c34 (fun a h => .inr (n32 a h))
     obtain ⟨x38, hx38, hbe5⟩ := Mi.bnd hbe5
     refine e_app r8 r37 hx38 fun H40 c39 r8 => ?_
     have r0 := Ty.fz r0 c39
     have c0 := c0.join c39 (fun a h => .inr (n10 a h))
     obtain rfl := Option.some.inj hbe5
     exact ⟨x38, c0, r0, r8, n10, hle5⟩
   obtain ⟨s6, c0, r0, r8, n10, hle5⟩ := hp
   obtain rfl := Mi.forN_end hle5
   obtain rfl := Option.some.inj hm
   exact hQ _ _ _ c0 r8 n10 
theorem sc_l_number : FnScope ["_law_word", "_law_most", "_law_sign_here"] ["_law_word", "_law_most"] (defScope s_l_number) := ⟨rfl, rfl, rfl, by decide +kernel, rfl, by decide +kernel, by decide +kernel⟩
def sp_l_number (K : PySem.W.Frag) : Sp := fun vs H Q _ => ∃ (d0 : (List Nat)) (d1 : Int) (r : (Option Int)), vs = [(.str (toS d0)), (.int d1)] ∧ Mi.m_l_number d0 d1 = some r ∧ ∀ v H', Chg ([]) H H' → (yOpt yInt).rep K H' [] v r → Q v H'
theorem ok_l_number (B : Bi mg) (CN : Cs w K mg) (D : Dfn K mg "_law_number" s_l_number)  : Cal P w K mg "_law_number" ["_law_word", "_law_most"] 1 (sp_l_number K) := by
 obtain ⟨f, fd, F, g⟩ := D.ex
 refine ⟨f, fd, g, F.kp, bindsF F (fun _ _ _ _ _ _ us hl => match us, hl with | [_, _], _ => rfl), fun base => F.ok sc_l_number (fun vs H Q E h => ?_) (fun cdv A outer s H0 vs Q E hr h => ?_)⟩
 · obtain ⟨d0, d1, r, rfl, hm, hQ⟩ := h; rfl
 ·
   obtain ⟨d0, d1, r, rfl, hm, hQ⟩ := h
   refine ⟨_, pss_cons (ps_if (PW.pt (pw_or (pt_cmpR op_lt (pe_callB cl_lenTx (by rfl) B.len PySem.boot_len (pa_cons (pv 0) pa_nil)) pe_int (nomark _)) (pw_or1 (pt_cmpR op_gt (pe_callB cl_lenTx (by rfl) B.len PySem.boot_len (pa_cons (pv 0) pa_nil)) pe_int (nomark _))))) (pss_cons (ps_ret pe_non) pss_nil) (pss_nil))
     (pss_cons (ps_for PassesOwn.never rfl (pi_str (pv 0)) (pg_name (i := 2) sc_l_number.nd rfl (.inl rfl)) (pss_cons (ps_if (pt_cmpR op_ni_c (pv 2) pe_str (by rfl)) (pss_cons (ps_ret pe_non) pss_nil) (pss_nil))
     (pss_nil)))
     (pss_cons (ps_if (PW.pt (pw_and (pt_cmpR op_gt (pe_callB cl_lenTx (by rfl) B.len PySem.boot_len (pa_cons (pv 0) pa_nil)) pe_int (nomark _)) (pw_and1 (pt_cmpR op_eq (pe_ix ix_str (pv 0) pe_int (fun _ _ => rfl)) pe_str (nomark _))))) (pss_cons (ps_ret pe_non) pss_nil) (pss_nil))
     (pss_cons (ps_if (pt_cmpR op_gt (pe_callTy cl_intS (by rfl) B.int (by decide +kernel) (pa_cons (pv 0) pa_nil)) (pv 1) (nomark _)) (pss_cons (ps_ret pe_non) pss_nil) (pss_nil))
     (pss_cons (ps_ret (pe_callTy cl_intS (by rfl) B.int (by decide +kernel) (pa_cons (pv 0) pa_nil))) pss_nil)))), ?_⟩
   have c0 : Chg ([] : List Addr) H0 H0 := Chg.refl H0
   unfold Mi.m_l_number at hm
   obtain ⟨x3, hx3, hm⟩ := Mi.bnd hm
   obtain ⟨b6, hb6, hm⟩ := Mi.bnd hm
   refine q_if (ans_orO (ans_t (val_lt (val_lenTx hx3 (val_var rfl)) val_c)) hb6 (fun hs4 => by (obtain ⟨x5, hx5, hs4⟩ := Mi.bnd hs4; cases hs4; exact (ans_t (val_gt (val_lenTx hx5 (val_var rfl)) val_c))))) (fun hb => ?_) (fun hb => ?_)
   ·
     replace hm := Mi.ifT hb hm
     refine q_ret ?_
     refine c_val val_c ?_
     obtain rfl := Option.some.inj hm
     exact hQ _ _ c0 opt_n 
   replace hm := Mi.ifF hb hm
   refine w_fall ?_
   refine q_for ?_
   refine w_iStr ?_
   refine c_val (val_var rfl) ?_
   obtain ⟨e7, he7, hm⟩ := Mi.bnd hm
   refine l_str (a := d0) (fun i σ' H' => ∃ (s8 : Unit) (y9 : Option V), σ' = [some (.str (toS d0)), some (.int d1), y9] ∧ Chg ([] : List Addr) H0 H' ∧ Mi.forR (Mi.m_l_number_b1) s8 (List.drop i (Mi.signs d0)) = some e7) ⟨(), none, rfl, c0, he7⟩ (fun i12 x11 σ' H' hx10 hp => ?_) (fun σ' H' hp => ?_)
   ·
     obtain ⟨s8, y9, rfl, c0, hle7⟩ := hp
     obtain ⟨o13, hbe7, hore7⟩ := Mi.forR_go hle7 hx10
     unfold Mi.m_l_number_b1 at hbe7
     refine g_name (σ' := [some (.str (toS d0)), some (.int d1), some (.str (toS x11))]) rfl ?_
     obtain ⟨b14, hb14, hbe7⟩ := Mi.bnd hbe7
     refine q_if (ans_t (val_niC hb14 (val_var rfl) (val_cS (a := ([48, 49, 50, 51, 52, 53, 54, 55, 56, 57] : List Nat)) (by decide +kernel)))) (fun hb => ?_) (fun hb => ?_)
     ·
       replace hbe7 := Mi.ifT hb hbe7
       refine q_ret ?_
       refine c_val val_c ?_
       obtain rfl := Option.some.inj hbe7
       obtain rfl := Mi.or_inl hore7
       obtain rfl := Option.some.inj (Mi.orR_inl hm)
       exact hQ _ _ c0 opt_n 
     replace hbe7 := Mi.ifF hb hbe7
     refine w_fall ?_
     refine w_nextJ ?_
     obtain rfl := Option.some.inj hbe7
     replace hore7 := Mi.or_inr hore7
     exact ⟨_, (some (.str (toS x11))), rfl, c0, hore7⟩
   obtain ⟨s8, y9, rfl, c0, hle7⟩ := hp
   obtain rfl := Mi.forR_end hle7
   replace hm := Mi.orR_inr hm
   obtain ⟨x15, hx15, hm⟩ := Mi.bnd hm
   obtain ⟨b18, hb18, hm⟩ := Mi.bnd hm
   refine q_if (ans_andO (ans_t (val_gt (val_lenTx hx15 (val_var rfl)) val_c)) hb18 (fun hs16 => by (obtain ⟨x17, hx17, hs16⟩ := Mi.bnd hs16; cases hs16; exact (ans_t (val_eqS (val_ixS hx17 (val_var rfl) val_c) (val_cS (a := ([48] : List Nat)) (by decide +kernel))))))) (fun hb => ?_) (fun hb => ?_)
   ·
     replace hm := Mi.ifT hb hm
     refine q_ret ?_
     refine c_val val_c ?_
     obtain rfl := Option.some.inj hm
     exact hQ _ _ c0 opt_n 
   replace hm := Mi.ifF hb hm
   refine w_fall ?_
   obtain ⟨x19, hx19, hm⟩ := Mi.bnd hm
   refine q_if (ans_t (val_gt (val_intN hx19 (val_var rfl)) (val_var rfl))) (fun hb => ?_) (fun hb => ?_)
   ·
     replace hm := Mi.ifT hb hm
     refine q_ret ?_
     refine c_val val_c ?_
     obtain rfl := Option.some.inj hm
     exact hQ _ _ c0 opt_n 
   replace hm := Mi.ifF hb hm
   refine w_fall ?_
   refine q_ret ?_
   obtain ⟨x20, hx20, hm⟩ := Mi.bnd hm
   refine c_val (val_intN hx20 (val_var rfl)) ?_
   obtain rfl := Option.some.inj hm
   exact hQ _ _ c0 (opt_i nn_int yInt_i) 
theorem sc_l_zone_of : FnScope ["_law_word", "_law_zone_here", "_law_piece", "_law_place"] ["_law_word"] (defScope s_l_zone_of) := ⟨rfl, rfl, rfl, by decide +kernel, rfl, by decide +kernel, by decide +kernel⟩
def sp_l_zone_of (K : PySem.W.Frag) : Sp := fun vs H Q _ => ∃ (d0 : (List Nat)) (r : (Option (List Int))), vs = [(.str (toS d0))] ∧ Mi.m_l_zone_of d0 = some r ∧ ∀ v H', Chg ([]) H H' → (yOpt (yTupL yInt)).rep K H' [] v r → Q v H'
theorem ok_l_zone_of (B : Bi mg) (CN : Cs w K mg) (D : Dfn K mg "_law_zone_of" s_l_zone_of) (C_l_number : Cal P w K mg "_law_number" ["_law_word", "_law_most"] 1 (sp_l_number K)) : Cal P w K mg "_law_zone_of" ["_law_word"] 2 (sp_l_zone_of K) := by
 obtain ⟨f, fd, F, g⟩ := D.ex
 refine ⟨f, fd, g, F.kp, bindsF F (fun _ _ _ _ _ _ us hl => match us, hl with | [_], _ => rfl), fun base => F.ok sc_l_zone_of (fun vs H Q E h => ?_) (fun cdv A outer s H0 vs Q E hr h => ?_)⟩
 · obtain ⟨d0, r, rfl, hm, hQ⟩ := h; rfl
 ·
   obtain ⟨d0, r, rfl, hm, hQ⟩ := h
   refine ⟨_, pss_cons (ps_if (pt_cmpR op_eq (pv 0) pe_str (nomark _)) (pss_cons (ps_ret (pe_tup pa_nil)) pss_nil) (pss_nil))
     (pss_cons (ps_set (i := 1) sc_l_zone_of.nd rfl (.inl rfl) (pe_lst pa_nil))
     (pss_cons (ps_for PassesOwn.never rfl (pi_list (pe_spl (pv 0) pe_str)) (pg_name (i := 2) sc_l_zone_of.nd rfl (.inl rfl)) (pss_cons (ps_set (i := 3) sc_l_zone_of.nd rfl (.inl rfl) (pe_cc C_l_number hr (pa_cons (pv 2) (pa_cons pe_int pa_nil))))
     (pss_cons (ps_if (PW.pt (pw_or (pt_cmpR op_isN1 (pv 3) pe_non (nomark _)) (pw_or1 (PW.pt (pw_and (pt_cmpR op_gt (pe_callB (cl_len (K := K)) (by rfl) B.len PySem.boot_len (pa_cons (pv 1) pa_nil)) pe_int (nomark _)) (pw_and1 (pt_cmpR op_le (pv 3) (pe_ix (ix_l (K := K)) (pv 1) (pe_un un_neg pe_int) (fun _ _ => rfl)) (nomark _)))))))) (pss_cons (ps_ret pe_non) pss_nil) (pss_nil))
     (pss_cons (ps_expr (pe_bm PySem.F.plainAttrs_list PySem.F.slot_list_append PySem.F.type_list_append mt_append (pv 1) (pa_cons (pv 3) pa_nil)))
     (pss_nil)))))
     (pss_cons (ps_ret (pe_callTy (cl_tuple (K := K)) (by rfl) B.tuple (by decide +kernel) (pa_cons (pv 1) pa_nil))) pss_nil))), ?_⟩
   have c0 : Chg ([] : List Addr) H0 H0 := Chg.refl H0
   unfold Mi.m_l_zone_of at hm
   refine q_if (ans_t (val_eqS (val_var rfl) (val_cS (a := ([45] : List Nat)) (by decide +kernel)))) (fun hb => ?_) (fun hb => ?_)
   ·
     replace hm := Mi.ifT hb hm
     refine q_ret ?_
     refine w_tup ?_
     refine w_args va_nil ?_
     refine e_tupl (K := K) (τ := yInt) (xs := ([] : (List Int))) (by exact Nat.le_of_ble_eq_true rfl) .nil fun p2 H6 np5 c3 r4 => ?_
     have c0 := c0.trans c3.none
     obtain rfl := Option.some.inj hm
     exact hQ _ _ c0 (opt_i (nn_tupl r4) r4) 
   replace hm := Mi.ifF hb hm
   refine w_fall ?_
   refine q_asg ?_
   refine w_lst ?_
   refine w_args va_nil ?_
   refine e_lst (K := K) (τ := yInt) (by exact Nat.le_of_ble_eq_true rfl) .nil fun p7 H11 np10 c8 r9 => ?_
   have n12 : ∀ a ∈ [p7], H0 a = none := one_fresh (c0.dom p7 np10)
   have c0 := c0.trans c8.none
   refine g_name (σ' := [some (.str (toS d0)), some (.ref p7), none, none]) rfl ?_
   refine q_for ?_
   refine w_iList ?_
   refine w_m1 ?_
   refine c_val (val_var rfl) ?_
   refine ⟨⟨_, rfl⟩, ?_⟩
   refine c_val (val_cS (a := ([44] : List Nat)) (by decide +kernel)) ?_
   obtain ⟨x13, hx13, hm⟩ := Mi.bnd hm
   refine w_spl (K := K) hx13 fun p14 H18 np17 c15 r16 => ?_
   have d19 : Dj [p7] [p14] := Ty.nin r9 np17
   have n20 : ∀ a ∈ [p14], H0 a = none := one_fresh (c0.dom p14 np17)
   have r9 := Ty.ex r9 c15
   have c0 := c0.trans c15.none
   obtain ⟨e21, he21, hm⟩ := Mi.bnd hm
   refine l_lst r16 (fun i σ' H' => ∃ (s22 : (List Int)) (y23 : Option V) (y24 : Option V), σ' = [some (.str (toS d0)), some (.ref p7), y23, y24] ∧ Chg ([] : List Addr) H0 H' ∧ (yLst yInt).rep K H' [p7] (.ref p7) s22 ∧ (yLst yStr).rep K H' [p14] (.ref p14) x13 ∧ Mi.forR (Mi.m_l_zone_of_b1) s22 (List.drop i x13) = some e21) ⟨([] : (List Int)), none, none, rfl, c0, r9, r16, he21⟩ (fun i σ' H' hp => by obtain ⟨s22, y23, y24, rfl, c0, r9, r16, _⟩ := hp; exact r16) (fun i27 x26 u28 σ' H' hx25 r29 hp => ?_) (fun σ' H' hp => ?_)
   ·
     obtain ⟨s22, y23, y24, rfl, c0, r9, r16, hle21⟩ := hp
     obtain ⟨o30, hbe21, hore21⟩ := Mi.forR_go hle21 hx25
     unfold Mi.m_l_zone_of_b1 at hbe21
     obtain ⟨_, rfl⟩ := r29
     refine g_name (σ' := [some (.str (toS d0)), some (.ref p7), some (.str (toS x26)), y24]) rfl ?_
     refine q_asg ?_
     refine w_call ?_
     refine w_args (va_cons (val_var rfl) (va_cons val_c va_nil)) ?_
     obtain ⟨q31, hq31, hbe21⟩ := Mi.bnd hbe21
     refine ⟨x26, (11 : Int), q31, rfl, hq31, fun v34 H33 c32 r35  => ?_⟩
     have r9 := Ty.ex r9 c32
     have r16 := Ty.ex r16 c32
     have c0 := c0.trans c32.none
     refine g_name (σ' := [some (.str (toS d0)), some (.ref p7), some (.str (toS x26)), some v34]) rfl ?_
     obtain ⟨b41, hb41, hbe21⟩ := Mi.bnd hbe21
     refine q_if (ans_orO (ans_t (val_isN r35 (val_var rfl))) hb41 (fun hs36 => by (obtain ⟨b40, hb40, hs36⟩ := Mi.bnd hs36; cases hs36; exact (ans_andO (ans_t (val_gt (val_lenL r9 (val_var rfl)) val_c)) hb40 (fun hs37 => by (obtain ⟨x38, hx38, hs37⟩ := Mi.bnd hs37; obtain ⟨x39, hx39, hs37⟩ := Mi.bnd hs37; obtain ⟨_, rfl⟩ := opt_int r35 hx39; cases hs37; exact (ans_t (val_le (val_var rfl) (itm_LI r9 hx38 (val_var rfl) (val_neg val_c)))))))))) (fun hb => ?_) (fun hb => ?_)
     ·
       replace hbe21 := Mi.ifT hb hbe21
       refine q_ret ?_
       refine c_val val_c ?_
       obtain rfl := Option.some.inj hbe21
       obtain rfl := Mi.or_inl hore21
       obtain rfl := Option.some.inj (Mi.orR_inl hm)
       exact hQ _ _ c0 opt_n 
     replace hbe21 := Mi.ifF hb hbe21
     refine w_fall ?_
     refine q_drop (w_bm (c_val (val_var rfl) ⟨tyv_lst r9, ?_⟩))
     refine w_args (va_cons (val_var rfl) va_nil) ?_
     obtain ⟨x42, hx42, hbe21⟩ := Mi.bnd hbe21
     obtain ⟨_, rfl⟩ := opt_int r35 hx42
     obtain ⟨x43, hx43, hbe21⟩ := Mi.bnd hbe21
     refine m_app r9 yInt_i hx43 fun H45 c44 r9 => ?_
     have r16 := Ty.chg r16 c44 d19.symm
     have c0 := c0.join c44 (fun a h => .inr (n12 a h))
     refine w_nextJ ?_
     obtain rfl := Option.some.inj hbe21
     replace hore21 := Mi.or_inr hore21
     exact ⟨_, (some (.str (toS x26))), (some (.int x42)), rfl, c0, r9, r16, hore21⟩
   obtain ⟨s22, y23, y24, rfl, c0, r9, r16, hle21⟩ := hp
   obtain rfl := Mi.forR_end hle21
   replace hm := Mi.orR_inr hm
   refine q_ret ?_
   refine w_cb ?_
   refine w_args (va_cons (val_var rfl) va_nil) ?_
   refine w_tupleL r9 fun v46 H47 c48 r49 => ?_
   have r9 := Ty.ex r9 c48
   have c0 := c0.trans c48.none
   obtain rfl := Option.some.inj hm
   exact hQ _ _ c0 (opt_i (nn_tupl r49) r49) 
abbrev N_l_flags_of : List Str := ["_law_word", "_law_sign_here"]
theorem sc_l_flags_of : FnScope ["_law_word", "_law_sign_here"] ["_law_word"] (defScope s_l_flags_of) := ⟨rfl, rfl, rfl, by decide +kernel, rfl, by decide +kernel, by decide +kernel⟩
def sp_l_flags_of (K : PySem.W.Frag) : Sp := fun vs H Q _ => ∃ (d0 : (List Nat)) (r : (Option (List Bool))), vs = [(.str (toS d0))] ∧ Mi.m_l_flags_of d0 = some r ∧ ∀ v H', Chg ([]) H H' → (yOpt (yTupL yBool)).rep K H' [] v r → Q v H'
theorem ok_l_flags_of (B : Bi mg) (CN : Cs w K mg) (D : Dfn K mg "_law_flags_of" s_l_flags_of)  : Cal P w K mg "_law_flags_of" ["_law_word"] 1 (sp_l_flags_of K) := by
 obtain ⟨f, fd, F, g⟩ := D.ex
 refine ⟨f, fd, g, F.kp, bindsF F (fun _ _ _ _ _ _ us hl => match us, hl with | [_], _ => rfl), fun base => F.ok sc_l_flags_of (fun vs H Q E h => ?_) (fun cdv A outer s H0 vs Q E hr h => ?_)⟩
 · obtain ⟨d0, r, rfl, hm, hQ⟩ := h; rfl
 ·
   obtain ⟨d0, r, rfl, hm, hQ⟩ := h
   refine ⟨_, pss_cons (ps_if (PW.pt (pw_or (pt_cmpR op_lt (pe_callB cl_lenTx (by rfl) B.len PySem.boot_len (pa_cons (pv 0) pa_nil)) pe_int (nomark _)) (pw_or1 (pt_cmpR op_gt (pe_callB cl_lenTx (by rfl) B.len PySem.boot_len (pa_cons (pv 0) pa_nil)) pe_int (nomark _))))) (pss_cons (ps_ret pe_non) pss_nil) (pss_nil))
     (pss_cons (ps_for PassesOwn.never rfl (pi_str (pv 0)) (pg_name (i := 1) sc_l_flags_of.nd rfl (.inl rfl)) (pss_cons (ps_if (pt_cmpR op_ni_c (pv 1) pe_str (by rfl)) (pss_cons (ps_ret pe_non) pss_nil) (pss_nil))
     (pss_nil)))
     (pss_cons (ps_ret (pe_callTy (cl_tuple (K := K)) (by rfl) B.tuple (by decide +kernel) (pa_cons (pe_lc (own := [("_law_sign_here", 1)]) rfl sc_l_flags_of.nd (pi_str (pv 0)) (blkOk_by (own := [("_law_sign_here", 1)]) (N := N_l_flags_of) (sc := defScope s_l_flags_of) (by decide +kernel)) (fun _ _ _ _ _ => (pg_name (i := 1) sc_l_flags_of.nd rfl (.inl rfl))) (fun _ _ _ _ _ => pts_nil) (fun _ _ _ _ _ => (pe_cmpR op_eq (pv 1) pe_str (nomark _)))) pa_nil))) pss_nil)), ?_⟩
   have c0 : Chg ([] : List Addr) H0 H0 := Chg.refl H0
   unfold Mi.m_l_flags_of at hm
   obtain ⟨x2, hx2, hm⟩ := Mi.bnd hm
   obtain ⟨b5, hb5, hm⟩ := Mi.bnd hm
   refine q_if (ans_orO (ans_t (val_lt (val_lenTx hx2 (val_var rfl)) val_c)) hb5 (fun hs3 => by (obtain ⟨x4, hx4, hs3⟩ := Mi.bnd hs3; cases hs3; exact (ans_t (val_gt (val_lenTx hx4 (val_var rfl)) val_c))))) (fun hb => ?_) (fun hb => ?_)
   ·
     replace hm := Mi.ifT hb hm
     refine q_ret ?_
     refine c_val val_c ?_
     obtain rfl := Option.some.inj hm
     exact hQ _ _ c0 opt_n 
   replace hm := Mi.ifF hb hm
   refine w_fall ?_
   refine q_for ?_
   refine w_iStr ?_
   refine c_val (val_var rfl) ?_
   obtain ⟨e6, he6, hm⟩ := Mi.bnd hm
   refine l_str (a := d0) (fun i σ' H' => ∃ (s7 : Unit) (y8 : Option V), σ' = [some (.str (toS d0)), y8] ∧ Chg ([] : List Addr) H0 H' ∧ Mi.forR (Mi.m_l_flags_of_b1) s7 (List.drop i (Mi.signs d0)) = some e6) ⟨(), none, rfl, c0, he6⟩ (fun i11 x10 σ' H' hx9 hp => ?_) (fun σ' H' hp => ?_)
   ·
     obtain ⟨s7, y8, rfl, c0, hle6⟩ := hp
     obtain ⟨o12, hbe6, hore6⟩ := Mi.forR_go hle6 hx9
     unfold Mi.m_l_flags_of_b1 at hbe6
     refine g_name (σ' := [some (.str (toS d0)), some (.str (toS x10))]) rfl ?_
     obtain ⟨b13, hb13, hbe6⟩ := Mi.bnd hbe6
     refine q_if (ans_t (val_niC hb13 (val_var rfl) (val_cS (a := ([121, 110] : List Nat)) (by decide +kernel)))) (fun hb => ?_) (fun hb => ?_)
     ·
       replace hbe6 := Mi.ifT hb hbe6
       refine q_ret ?_
       refine c_val val_c ?_
       obtain rfl := Option.some.inj hbe6
       obtain rfl := Mi.or_inl hore6
       obtain rfl := Option.some.inj (Mi.orR_inl hm)
       exact hQ _ _ c0 opt_n 
     replace hbe6 := Mi.ifF hb hbe6
     refine w_fall ?_
     refine w_nextJ ?_
     obtain rfl := Option.some.inj hbe6
     replace hore6 := Mi.or_inr hore6
     exact ⟨_, (some (.str (toS x10))), rfl, c0, hore6⟩
   obtain ⟨s7, y8, rfl, c0, hle6⟩ := hp
   obtain rfl := Mi.forR_end hle6
   replace hm := Mi.orR_inr hm
   refine q_ret ?_
   refine w_cb ?_
   refine w_cons ?_
   refine w_lc ?_
   refine w_iStr ?_
   refine c_val (val_var rfl) ?_
   obtain ⟨e14, he14, hm⟩ := Mi.bnd hm
   refine kc_str (K := K) (τ := yBool) (a := d0) (fun D16 i H' => ∃ (s15 : (List Bool)), Chg ([] : List Addr) H0 H' ∧ (yLst yBool).rep K H' [D16] (.ref D16) s15 ∧ (∀ a ∈ [D16], H0 a = none) ∧ Mi.forN (Mi.m_l_flags_of_b2) s15 (List.drop i (Mi.signs d0)) = some e14) (fun D16 H22 np21 c20 r17 => ⟨([] : (List Bool)), c0.trans c20.none, r17, one_fresh (c0.dom D16 np21), he14⟩) (fun D16 i25 x24 H26 hx23 hp => ?_) (fun D16 H' np21 hp => ?_)
   ·
     obtain ⟨s15, c0, r17, n19, hle14⟩ := hp
     obtain ⟨_, hbe14, hle14⟩ := Mi.forN_go hle14 hx23
     unfold Mi.m_l_flags_of_b2 at hbe14
     refine g_name (σ' := [some (.str (toS d0)), some (.str (toS x24))]) rfl ?_
     refine ⟨rfl, ?_⟩
     refine w_yes ?_
     refine iteT ?_
     refine c_val (val_eqS (val_var rfl) (val_cS (a := ([121] : List Nat)) (by decide +kernel))) ?_
     obtain ⟨x33, hx33, hbe14⟩ := Mi.bnd hbe14
     refine e_app r17 yBool_i hx33 fun H35 c34 r17 => ?_
     have c0 := c0.join c34 (fun a h => .inr (n19 a h))
     obtain rfl := Option.some.inj hbe14
     exact ⟨x33, c0, r17, n19, hle14⟩
   obtain ⟨s15, c0, r17, n19, hle14⟩ := hp
   obtain rfl := Mi.forN_end hle14
   refine w_nil ?_
   refine w_tupleL r17 fun v36 H37 c38 r39 => ?_
   have r17 := Ty.ex r17 c38
   have c0 := c0.trans c38.none
   obtain rfl := Option.some.inj hm
   exact hQ _ _ c0 (opt_i (nn_tupl r39) r39) 
theorem sc_l_slot : FnScope ["_law_slot_here", "_law_word"] ["_law_slot_here", "_law_word"] (defScope s_l_slot) := ⟨rfl, rfl, rfl, by decide +kernel, rfl, by decide +kernel, by decide +kernel⟩
def sp_l_slot (K : PySem.W.Frag) : Sp := fun vs H Q _ => ∃ (d0 : (List Nat)) (d1 : (List Nat)) (r : (Option (Int ⊕ (List Nat) ⊕ Bool ⊕ (List Int) ⊕ (List Bool)))), vs = [(.str (toS d0)), (.str (toS d1))] ∧ Mi.m_l_slot d0 d1 = some r ∧ ∀ v H', Chg ([]) H H' → (yOpt (ySum yInt (ySum yStr (ySum yBool (ySum (yTupL yInt) (yTupL yBool)))))).rep K H' [] v r → Q v H'
theorem ok_l_slot (B : Bi mg) (CN : Cs w K mg) (D : Dfn K mg "_law_slot" s_l_slot) (C_l_number : Cal P w K mg "_law_number" ["_law_word", "_law_most"] 1 (sp_l_number K)) (C_l_zone_of : Cal P w K mg "_law_zone_of" ["_law_word"] 2 (sp_l_zone_of K)) (C_l_flags_of : Cal P w K mg "_law_flags_of" ["_law_word"] 1 (sp_l_flags_of K)) : Cal P w K mg "_law_slot" ["_law_slot_here", "_law_word"] 3 (sp_l_slot K) := by
 obtain ⟨f, fd, F, g⟩ := D.ex
 refine ⟨f, fd, g, F.kp, bindsF F (fun _ _ _ _ _ _ us hl => match us, hl with | [_, _], _ => rfl), fun base => F.ok sc_l_slot (fun vs H Q E h => ?_) (fun cdv A outer s H0 vs Q E hr h => ?_)⟩
 · obtain ⟨d0, d1, r, rfl, hm, hQ⟩ := h; rfl
 ·
   obtain ⟨d0, d1, r, rfl, hm, hQ⟩ := h
   refine ⟨_, pss_cons (ps_if (pt_cmpR op_eq (pv 0) pe_str (nomark _)) (pss_cons (ps_ret (pe_cc C_l_number hr (pa_cons (pv 1) (pa_cons pe_int pa_nil)))) pss_nil) (pss_nil))
     (pss_cons (ps_if (pt_cmpR op_eq (pv 0) pe_str (nomark _)) (pss_cons (ps_ret (pe_cc C_l_number hr (pa_cons (pv 1) (pa_cons pe_int pa_nil)))) pss_nil) (pss_nil))
     (pss_cons (ps_if (pt_cmpR op_eq (pv 0) pe_str (nomark _)) (pss_cons (ps_ret (pe_cc C_l_number hr (pa_cons (pv 1) (pa_cons pe_int pa_nil)))) pss_nil) (pss_nil))
     (pss_cons (ps_if (PW.pt (pw_or (pt_cmpR op_eq (pv 0) pe_str (nomark _)) (pw_or1 (pt_cmpR op_eq (pv 0) pe_str (nomark _))))) (pss_cons (ps_ret (pe_cc C_l_number hr (pa_cons (pv 1) (pa_cons pe_int pa_nil)))) pss_nil) (pss_nil))
     (pss_cons (ps_if (pt_cmpR op_eq (pv 0) pe_str (nomark _)) (pss_cons (ps_ret (pe_cc C_l_zone_of hr (pa_cons (pv 1) pa_nil))) pss_nil) (pss_nil))
     (pss_cons (ps_if (pt_cmpR op_eq (pv 0) pe_str (nomark _)) (pss_cons (ps_ret (pe_cc C_l_flags_of hr (pa_cons (pv 1) pa_nil))) pss_nil) (pss_nil))
     (pss_cons (ps_if (pt_cmpR op_eq (pv 0) pe_str (nomark _)) (pss_cons (ps_ret (pe_ix (ix_l (K := K)) (pe_lst (pa_cons (pe_cc C_l_number hr (pa_cons (pv 1) (pa_cons pe_int pa_nil))) (pa_cons pe_non pa_nil))) (pe_callTy cl_int (by rfl) B.int (by decide +kernel) (pa_cons (pe_cmpR op_eq (pv 1) pe_str (nomark _)) pa_nil)) (fun _ _ => rfl))) pss_nil) (pss_nil))
     (pss_cons (ps_if (pt_cmpR op_eq (pv 1) (pe_slice sl_str (pv 0) (po_some pe_int) po_none) (nomark _)) (pss_cons (ps_ret (pv 1)) pss_nil) (pss_nil))
     (pss_cons (ps_ret pe_non) pss_nil)))))))), ?_⟩
   have c0 : Chg ([] : List Addr) H0 H0 := Chg.refl H0
   unfold Mi.m_l_slot at hm
   refine q_if (ans_t (val_eqS (val_var rfl) (val_cS (a := ([115, 104, 105, 112] : List Nat)) (by decide +kernel)))) (fun hb => ?_) (fun hb => ?_)
   ·
     replace hm := Mi.ifT hb hm
     refine q_ret ?_
     refine w_call ?_
     refine w_args (va_cons (val_var rfl) (va_cons val_c va_nil)) ?_
     obtain ⟨q3, hq3, hm⟩ := Mi.bnd hm
     refine ⟨d1, (3 : Int), q3, rfl, hq3, fun v6 H5 c4 r7  => ?_⟩
     have c0 := c0.trans c4.none
     obtain rfl := Option.some.inj hm
     exact hQ _ _ c0 (opt_sl r7) 
   replace hm := Mi.ifF hb hm
   refine w_fall ?_
   refine q_if (ans_t (val_eqS (val_var rfl) (val_cS (a := ([108, 101, 116, 116, 101, 114] : List Nat)) (by decide +kernel)))) (fun hb => ?_) (fun hb => ?_)
   ·
     replace hm := Mi.ifT hb hm
     refine q_ret ?_
     refine w_call ?_
     refine w_args (va_cons (val_var rfl) (va_cons val_c va_nil)) ?_
     obtain ⟨q8, hq8, hm⟩ := Mi.bnd hm
     refine ⟨d1, (5 : Int), q8, rfl, hq8, fun v11 H10 c9 r12  => ?_⟩
     have c0 := c0.trans c9.none
     obtain rfl := Option.some.inj hm
     exact hQ _ _ c0 (opt_sl r12) 
   replace hm := Mi.ifF hb hm
   refine w_fall ?_
   refine q_if (ans_t (val_eqS (val_var rfl) (val_cS (a := ([101, 118, 101, 110, 116] : List Nat)) (by decide +kernel)))) (fun hb => ?_) (fun hb => ?_)
   ·
     replace hm := Mi.ifT hb hm
     refine q_ret ?_
     refine w_call ?_
     refine w_args (va_cons (val_var rfl) (va_cons val_c va_nil)) ?_
     obtain ⟨q13, hq13, hm⟩ := Mi.bnd hm
     refine ⟨d1, (6 : Int), q13, rfl, hq13, fun v16 H15 c14 r17  => ?_⟩
     have c0 := c0.trans c14.none
     obtain rfl := Option.some.inj hm
     exact hQ _ _ c0 (opt_sl r17) 
   replace hm := Mi.ifF hb hm
   refine w_fall ?_
   refine q_if (ans_orB (ans_t (val_eqS (val_var rfl) (val_cS (a := ([104, 111, 117, 114] : List Nat)) (by decide +kernel)))) (fun _ => (ans_t (val_eqS (val_var rfl) (val_cS (a := ([101, 110, 116, 114, 121] : List Nat)) (by decide +kernel)))))) (fun hb => ?_) (fun hb => ?_)
   ·
     replace hm := Mi.ifT hb hm
     refine q_ret ?_
     refine w_call ?_
     refine w_args (va_cons (val_var rfl) (va_cons val_c va_nil)) ?_
     obtain ⟨q19, hq19, hm⟩ := Mi.bnd hm
     refine ⟨d1, (999 : Int), q19, rfl, hq19, fun v22 H21 c20 r23  => ?_⟩
     have c0 := c0.trans c20.none
     obtain rfl := Option.some.inj hm
     exact hQ _ _ c0 (opt_sl r23) 
   replace hm := Mi.ifF hb hm
   refine w_fall ?_
   refine q_if (ans_t (val_eqS (val_var rfl) (val_cS (a := ([122, 111, 110, 101] : List Nat)) (by decide +kernel)))) (fun hb => ?_) (fun hb => ?_)
   ·
     replace hm := Mi.ifT hb hm
     refine q_ret ?_
     refine w_call ?_
     refine w_args (va_cons (val_var rfl) va_nil) ?_
     obtain ⟨q24, hq24, hm⟩ := Mi.bnd hm
     refine ⟨d1, q24, rfl, hq24, fun v27 H26 c25 r28  => ?_⟩
     have c0 := c0.trans c25.none
     obtain rfl := Option.some.inj hm
     exact hQ _ _ c0 (opt_sr (opt_sr (opt_sr (opt_sl r28)))) 
   replace hm := Mi.ifF hb hm
   refine w_fall ?_
   refine q_if (ans_t (val_eqS (val_var rfl) (val_cS (a := ([102, 108, 97, 103, 115] : List Nat)) (by decide +kernel)))) (fun hb => ?_) (fun hb => ?_)
   ·
     replace hm := Mi.ifT hb hm
     refine q_ret ?_
     refine w_call ?_
     refine w_args (va_cons (val_var rfl) va_nil) ?_
     obtain ⟨q29, hq29, hm⟩ := Mi.bnd hm
     refine ⟨d1, q29, rfl, hq29, fun v32 H31 c30 r33  => ?_⟩
     have c0 := c0.trans c30.none
     obtain rfl := Option.some.inj hm
     exact hQ _ _ c0 (opt_sr (opt_sr (opt_sr (opt_sr r33)))) 
   replace hm := Mi.ifF hb hm
   refine w_fall ?_
   refine q_if (ans_t (val_eqS (val_var rfl) (val_cS (a := ([119, 111, 114, 116, 104] : List Nat)) (by decide +kernel)))) (fun hb => ?_) (fun hb => ?_)
   ·
     replace hm := Mi.ifT hb hm
     refine q_ret ?_
     refine w_op ?_
     refine w_lst ?_
     refine w_cons ?_
     refine w_call ?_
     refine w_args (va_cons (val_var rfl) (va_cons val_c va_nil)) ?_
     obtain ⟨q34, hq34, hm⟩ := Mi.bnd hm
     refine ⟨d1, (99 : Int), q34, rfl, hq34, fun v37 H36 c35 r38  => ?_⟩
     have c0 := c0.trans c35.none
     refine w_cons ?_
     refine c_val val_c ?_
     refine w_nil ?_
     refine e_lst (K := K) (τ := (yOpt yInt)) (by exact Nat.le_of_ble_eq_true rfl) (.cons r38 (.cons opt_n .nil)) fun p39 H43 np42 c40 r41 => ?_
     have n44 : ∀ a ∈ [p39], H0 a = none := one_fresh (c0.dom p39 np42)
     have r38 := Ty.fz r38 c40
     have c0 := c0.trans c40.none
     refine c_val (val_intB (val_eqS (val_var rfl) (val_cS (a := ([48] : List Nat)) (by decide +kernel)))) ?_
     obtain ⟨x45, hx45, hm⟩ := Mi.bnd hm
     refine w_ixL r41 hx45 fun u46 r47 => ?_
     obtain rfl := Option.some.inj hm
     exact hQ _ _ c0 (opt_sl r47) 
   replace hm := Mi.ifF hb hm
   refine w_fall ?_
   refine q_ifS ?_
   refine w_test ?_
   refine w_op ?_
   refine c_val (val_var rfl) ?_
   refine w_sl ?_
   refine c_val (val_var rfl) ?_
   refine w_pos ?_
   refine c_val val_c ?_
   refine ⟨_, rfl, ?_⟩
   refine w_pon ?_
   obtain ⟨x48, hx48, hm⟩ := Mi.bnd hm
   refine w_cutS hx48 ?_
   refine w_eqS ?_
   refine ⟨_, rfl, ?_⟩
   refine c_if (fun hb => ?_) (fun hb => ?_)
   ·
     replace hm := Mi.ifT hb hm
     refine q_ret ?_
     refine c_val (val_var rfl) ?_
     obtain rfl := Option.some.inj hm
     exact hQ _ _ c0 (opt_i nn_str (sum_r (sum_l yStr_i))) 
   replace hm := Mi.ifF hb hm
   refine w_fall ?_
   refine q_ret ?_
   refine c_val val_c ?_
   obtain rfl := Option.some.inj hm
   exact hQ _ _ c0 opt_n 
abbrev N_l_deed_of : List Str := ["_law_line", "_law_words", "_law_lots", "_law_lot_here", "_law_form", "_law_values", "_law_k"]
theorem sc_l_deed_of : FnScope ["_law_line", "_law_words", "_law_lots", "_law_lot_here", "_law_form", "_law_values", "_law_k"] ["_law_line"] (defScope s_l_deed_of) := ⟨rfl, rfl, rfl, by decide +kernel, rfl, by decide +kernel, by decide +kernel⟩
def sp_l_deed_of (K : PySem.W.Frag) : Sp := fun vs H Q _ => ∃ (d0 : (List Nat)) (r : (Option (List (Int ⊕ (List Nat) ⊕ Bool ⊕ (List Int) ⊕ (List Bool))))), vs = [(.str (toS d0))] ∧ Mi.m_l_deed_of d0 = some r ∧ ∀ v H', Chg ([]) H H' → (yOpt (yTupL (ySum yInt (ySum yStr (ySum yBool (ySum (yTupL yInt) (yTupL yBool))))))).rep K H' [] v r → Q v H'
theorem ok_l_deed_of (B : Bi mg) (CN : Cs w K mg) (D : Dfn K mg "_law_deed_of" s_l_deed_of) (C_l_slot : Cal P w K mg "_law_slot" ["_law_slot_here", "_law_word"] 3 (sp_l_slot K)) : Cal P w K mg "_law_deed_of" ["_law_line"] 4 (sp_l_deed_of K) := by
 obtain ⟨f, fd, F, g⟩ := D.ex
 refine ⟨f, fd, g, F.kp, bindsF F (fun _ _ _ _ _ _ us hl => match us, hl with | [_], _ => rfl), fun base => F.ok sc_l_deed_of (fun vs H Q E h => ?_) (fun cdv A outer s H0 vs Q E hr h => ?_)⟩
 · obtain ⟨d0, r, rfl, hm, hQ⟩ := h; rfl
 ·
   obtain ⟨d0, r, rfl, hm, hQ⟩ := h
   refine ⟨_, pss_cons (ps_set (i := 1) sc_l_deed_of.nd rfl (.inr rfl) (pe_spl (pv 0) pe_str))
     (pss_cons (ps_set (i := 2) sc_l_deed_of.nd rfl (.inl rfl) (pe_lst (pa_cons pe_str (pa_cons pe_str pa_nil))))
     (pss_cons (ps_set (i := 2) sc_l_deed_of.nd rfl (.inl rfl) (pe_op op_cat (pv 2) (pe_lst (pa_cons pe_str (pa_cons pe_str pa_nil)))))
     (pss_cons (ps_for PassesOwn.never rfl (pi_list (pv 2)) (pg_name (i := 3) sc_l_deed_of.nd rfl (.inl rfl)) (pss_cons (ps_set (i := 4) sc_l_deed_of.nd rfl (.inr rfl) (pe_spl (pv 3) pe_str))
     (pss_cons (ps_set (i := 5) sc_l_deed_of.nd rfl (.inl rfl) (pe_lst (pa_cons pe_non pa_nil)))
     (pss_cons (ps_if (pt_cmpR op_eq (pe_callB (cl_len (K := K)) (by rfl) B.len PySem.boot_len (pa_cons (pv 4) pa_nil)) (pe_callB (cl_len (K := K)) (by rfl) B.len PySem.boot_len (pa_cons (pv 1) pa_nil)) (nomark _)) (pss_cons (ps_setLc (i := 5) (own := [("_law_k", 6)]) rfl sc_l_deed_of.nd rfl rfl (sw_true rfl rfl rfl (by decide +kernel)) (pi_range1 (by rfl) B.range (pa_cons (pe_callB (cl_len (K := K)) (by rfl) B.len PySem.boot_len (pa_cons (pv 4) pa_nil)) pa_nil)) (blkOk_by (own := [("_law_k", 6)]) (N := N_l_deed_of) (sc := defScope s_l_deed_of) (by decide +kernel)) (fun _ _ _ _ _ => (pg_name (i := 6) sc_l_deed_of.nd rfl (.inl rfl))) (fun _ _ _ _ _ => pts_nil) (fun _ _ _ _ _ => (pe_cc C_l_slot hr (pa_cons (pe_ix (ix_l (K := K)) (pv 4) (pv 6) (fun _ _ => rfl)) (pa_cons (pe_ix (ix_l (K := K)) (pv 1) (pv 6) (fun _ _ => rfl)) pa_nil)))))
     (pss_nil)) (pss_nil))
     (pss_cons (ps_if (PW.pt (pw_and (pt_cmpR (op_ni_d (K := K) (units1 hr)) pe_non (pv 5) (by rfl)) (pw_and1 (pt_cmpR (op_eq_d hr.units) (pe_ix (ix_l (K := K)) (pv 5) pe_int (fun _ _ => rfl)) pe_str (nomark _))))) (pss_cons (ps_ret (pe_tup (pa_cons pe_str (pa_cons (pe_ix (ix_l (K := K)) (pv 5) pe_int (fun _ _ => rfl)) (pa_cons (pe_ix (ix_l (K := K)) (pv 5) pe_int (fun _ _ => rfl)) (pa_cons (pe_ix (ix_l (K := K)) (pv 5) pe_int (fun _ _ => rfl)) (pa_cons (pe_cmpR (op_eq_d hr.units) (pe_ix (ix_l (K := K)) (pv 5) pe_int (fun _ _ => rfl)) pe_str (nomark _)) (pa_cons (pe_ix (ix_l (K := K)) (pv 5) pe_int (fun _ _ => rfl)) pa_nil)))))))) pss_nil) (pss_nil))
     (pss_cons (ps_if (PW.pt (pw_and (pt_cmpR (op_ni_d (K := K) (units1 hr)) pe_non (pv 5) (by rfl)) (pw_and1 (pt_cmpR (op_eq_d hr.units) (pe_ix (ix_l (K := K)) (pv 5) pe_int (fun _ _ => rfl)) pe_str (nomark _))))) (pss_cons (ps_ret (pe_tup (pa_cons pe_str (pa_cons (pe_ix (ix_l (K := K)) (pv 5) pe_int (fun _ _ => rfl)) (pa_cons (pe_ix (ix_l (K := K)) (pv 5) pe_int (fun _ _ => rfl)) (pa_cons (pe_ix (ix_l (K := K)) (pv 5) pe_int (fun _ _ => rfl)) (pa_cons (pe_ix (ix_l (K := K)) (pv 5) pe_int (fun _ _ => rfl)) pa_nil))))))) pss_nil) (pss_nil))
     (pss_cons (ps_if (pt_cmpR (op_ni_d (K := K) (units1 hr)) pe_non (pv 5) (by rfl)) (pss_cons (ps_ret (pe_tup (pa_cons pe_str (pa_cons (pe_ix (ix_l (K := K)) (pv 5) pe_int (fun _ _ => rfl)) pa_nil)))) pss_nil) (pss_nil))
     (pss_nil))))))))
     (pss_cons (ps_ret pe_non) pss_nil)))), ?_⟩
   have c0 : Chg ([] : List Addr) H0 H0 := Chg.refl H0
   unfold Mi.m_l_deed_of at hm
   refine q_asg ?_
   refine w_m1 ?_
   refine c_val (val_var rfl) ?_
   refine ⟨⟨_, rfl⟩, ?_⟩
   refine c_val (val_cS (a := ([32] : List Nat)) (by decide +kernel)) ?_
   obtain ⟨x2, hx2, hm⟩ := Mi.bnd hm
   refine w_spl (K := K) hx2 fun p3 H7 np6 c4 r5 => ?_
   have n8 : ∀ a ∈ [p3], H0 a = none := one_fresh (c0.dom p3 np6)
   have c0 := c0.trans c4.none
   refine g_name (σ' := [some (.str (toS d0)), some (.ref p3), none, none, none, none, none]) rfl ?_
   refine q_asg ?_
   refine w_lst ?_
   refine w_args (va_cons (val_cS (a := ([61, 114, 101, 112, 111, 114, 116, 32, 115, 104, 105, 112, 32, 61, 97, 116, 32, 104, 111, 117, 114, 32, 61, 105, 110, 32, 122, 111, 110, 101, 32, 61, 119, 101, 105, 103, 104, 116, 32, 119, 111, 114, 116, 104] : List Nat)) (by decide +kernel)) (va_cons (val_cS (a := ([61, 114, 101, 112, 111, 114, 116, 32, 115, 104, 105, 112, 32, 61, 97, 116, 32, 104, 111, 117, 114, 32, 61, 111, 117, 116, 32, 122, 111, 110, 101, 32, 61, 119, 101, 105, 103, 104, 116, 32, 119, 111, 114, 116, 104] : List Nat)) (by decide +kernel)) va_nil)) ?_
   refine e_lst (K := K) (τ := yStr) (by exact Nat.le_of_ble_eq_true rfl) (.cons yStr_i (.cons yStr_i .nil)) fun p9 H13 np12 c10 r11 => ?_
   have d14 : Dj [p3] [p9] := Ty.nin r5 np12
   have n15 : ∀ a ∈ [p9], H0 a = none := one_fresh (c0.dom p9 np12)
   have r5 := Ty.ex r5 c10
   have c0 := c0.trans c10.none
   refine g_name (σ' := [some (.str (toS d0)), some (.ref p3), some (.ref p9), none, none, none, none]) rfl ?_
   refine q_asg ?_
   refine w_op ?_
   refine c_val (val_var rfl) ?_
   refine w_lst ?_
   refine w_args (va_cons (val_cS (a := ([61, 114, 101, 99, 101, 105, 118, 101, 32, 108, 101, 116, 116, 101, 114, 32, 61, 101, 118, 101, 110, 116, 32, 101, 118, 101, 110, 116, 32, 61, 97, 116, 32, 104, 111, 117, 114, 32, 102, 108, 97, 103, 115] : List Nat)) (by decide +kernel)) (va_cons (val_cS (a := ([61, 119, 105, 116, 104, 100, 114, 97, 119, 32, 101, 110, 116, 114, 121] : List Nat)) (by decide +kernel)) va_nil)) ?_
   refine e_lst (K := K) (τ := yStr) (by exact Nat.le_of_ble_eq_true rfl) (.cons yStr_i (.cons yStr_i .nil)) fun p16 H20 np19 c17 r18 => ?_
   have d21 : Dj [p3] [p16] := Ty.nin r5 np19
   have d22 : Dj [p9] [p16] := Ty.nin r11 np19
   have n23 : ∀ a ∈ [p16], H0 a = none := one_fresh (c0.dom p16 np19)
   have r5 := Ty.ex r5 c17
   have r11 := Ty.ex r11 c17
   have c0 := c0.trans c17.none
   obtain ⟨x24, hx24, hm⟩ := Mi.bnd hm
   refine w_cat r11 r18 hx24 fun p25 H29 np28 c26 r27 => ?_
   have d30 : Dj [p3] [p25] := Ty.nin r5 np28
   have d31 : Dj [p9] [p25] := Ty.nin r11 np28
   have d32 : Dj [p16] [p25] := Ty.nin r18 np28
   have n33 : ∀ a ∈ [p25], H0 a = none := one_fresh (c0.dom p25 np28)
   have r5 := Ty.ex r5 c26
   have r11 := Ty.ex r11 c26
   have r18 := Ty.ex r18 c26
   have c0 := c0.trans c26.none
   refine g_name (σ' := [some (.str (toS d0)), some (.ref p3), some (.ref p25), none, none, none, none]) rfl ?_
   refine q_for ?_
   refine w_iList ?_
   refine c_val (val_var rfl) ?_
   obtain ⟨e34, he34, hm⟩ := Mi.bnd hm
   refine l_lst r27 (fun i σ' H' => ∃ (s35 : Unit) (y36 : Option V) (y37 : Option V) (y38 : Option V), σ' = [some (.str (toS d0)), some (.ref p3), some (.ref p25), y36, y37, y38, none] ∧ Chg ([] : List Addr) H0 H' ∧ (yLst yStr).rep K H' [p3] (.ref p3) x2 ∧ (yLst yStr).rep K H' [p25] (.ref p25) x24 ∧ Mi.forR (Mi.m_l_deed_of_b1 x2) s35 (List.drop i x24) = some e34) ⟨(), none, none, none, rfl, c0, r5, r27, he34⟩ (fun i σ' H' hp => by obtain ⟨s35, y36, y37, y38, rfl, c0, r5, r27, _⟩ := hp; exact r27) (fun i41 x40 u42 σ' H' hx39 r43 hp => ?_) (fun σ' H' hp => ?_)
   ·
     obtain ⟨s35, y36, y37, y38, rfl, c0, r5, r27, hle34⟩ := hp
     obtain ⟨o44, hbe34, hore34⟩ := Mi.forR_go hle34 hx39
     unfold Mi.m_l_deed_of_b1 at hbe34
     obtain ⟨_, rfl⟩ := r43
     refine g_name (σ' := [some (.str (toS d0)), some (.ref p3), some (.ref p25), some (.str (toS x40)), y37, y38, none]) rfl ?_
     refine q_asg ?_
     refine w_m1 ?_
     refine c_val (val_var rfl) ?_
     refine ⟨⟨_, rfl⟩, ?_⟩
     refine c_val (val_cS (a := ([32] : List Nat)) (by decide +kernel)) ?_
     obtain ⟨x45, hx45, hbe34⟩ := Mi.bnd hbe34
     refine w_spl (K := K) hx45 fun p46 H50 np49 c47 r48 => ?_
     have d51 : Dj [p3] [p46] := Ty.nin r5 np49
     have d52 : Dj [p25] [p46] := Ty.nin r27 np49
     have n53 : ∀ a ∈ [p46], H0 a = none := one_fresh (c0.dom p46 np49)
     have r5 := Ty.ex r5 c47
     have r27 := Ty.ex r27 c47
     have c0 := c0.trans c47.none
     refine g_name (σ' := [some (.str (toS d0)), some (.ref p3), some (.ref p25), some (.str (toS x40)), some (.ref p46), y38, none]) rfl ?_
     refine q_asg ?_
     refine w_lst ?_
     refine w_args (va_cons val_c va_nil) ?_
     refine e_lst (K := K) (τ := (yOpt (ySum yInt (ySum yStr (ySum yBool (ySum (yTupL yInt) (yTupL yBool))))))) (by exact Nat.le_of_ble_eq_true rfl) (.cons opt_n .nil) fun p54 H58 np57 c55 r56 => ?_
     have d59 : Dj [p3] [p54] := Ty.nin r5 np57
     have d60 : Dj [p25] [p54] := Ty.nin r27 np57
     have d61 : Dj [p46] [p54] := Ty.nin r48 np57
     have n62 : ∀ a ∈ [p54], H0 a = none := one_fresh (c0.dom p54 np57)
     have r5 := Ty.ex r5 c55
     have r27 := Ty.ex r27 c55
     have r48 := Ty.ex r48 c55
     have c0 := c0.trans c55.none
     refine g_name (σ' := [some (.str (toS d0)), some (.ref p3), some (.ref p25), some (.str (toS x40)), some (.ref p46), some (.ref p54), none]) rfl ?_
     obtain ⟨s63, hs63, hbe34⟩ := Mi.bnd hbe34
     refine s_join (R := fun σ' H' => ∃ (v64 : V) (F66 : List Addr), σ' = [some (.str (toS d0)), some (.ref p3), some (.ref p25), some (.str (toS x40)), some (.ref p46), some v64, none] ∧ Chg ([] : List Addr) H0 H' ∧ (yLst yStr).rep K H' [p3] (.ref p3) x2 ∧ (yLst yStr).rep K H' [p25] (.ref p25) x24 ∧ (yLst yStr).rep K H' [p46] (.ref p46) x45 ∧ (yLst (yOpt (ySum yInt (ySum yStr (ySum yBool (ySum (yTupL yInt) (yTupL yBool))))))).rep K H' F66 v64 s63 ∧ (∀ a ∈ F66, H0 a = none) ∧ Dj F66 [p3] ∧ Dj F66 [p25] ∧ Dj F66 [p46]) (fun nx kx => ?_) (fun σ' H' hj => ?_)
     ·
       refine s_if (ans_t (val_eqI (val_lenL r48 (val_var rfl)) (val_lenL r5 (val_var rfl)))) (fun hb => ?_) (fun hb => ?_)
       ·
         replace hs63 := Mi.ifT hb hs63
         refine q_asg ?_
         refine w_lc ?_
         refine w_iRng1 ?_
         refine w_args (va_cons (val_lenL r48 (val_var rfl)) va_nil) ?_
         obtain ⟨g71, hg71, hs63⟩ := Mi.bnd hs63
         obtain ⟨e72, he72, hs63⟩ := Mi.bnd hs63
         refine kc_rng1 (K := K) (τ := (yOpt (ySum yInt (ySum yStr (ySum yBool (ySum (yTupL yInt) (yTupL yBool))))))) hg71 (fun D74 i H' => ∃ (s73 : (List (Option (Int ⊕ (List Nat) ⊕ Bool ⊕ (List Int) ⊕ (List Bool))))), Chg ([] : List Addr) H0 H' ∧ (yLst yStr).rep K H' [p3] (.ref p3) x2 ∧ (yLst yStr).rep K H' [p25] (.ref p25) x24 ∧ (yLst yStr).rep K H' [p46] (.ref p46) x45 ∧ (yLst (yOpt (ySum yInt (ySum yStr (ySum yBool (ySum (yTupL yInt) (yTupL yBool))))))).rep K H' [p54] (.ref p54) [(none : (Option (Int ⊕ (List Nat) ⊕ Bool ⊕ (List Int) ⊕ (List Bool))))] ∧ (yLst (yOpt (ySum yInt (ySum yStr (ySum yBool (ySum (yTupL yInt) (yTupL yBool))))))).rep K H' [D74] (.ref D74) s73 ∧ Dj [p3] [D74] ∧ Dj [p25] [D74] ∧ Dj [p46] [D74] ∧ Dj [p54] [D74] ∧ (∀ a ∈ [D74], H0 a = none) ∧ Mi.forN (Mi.m_l_deed_of_b2 x2 x45) s73 (List.drop i g71) = some e72) (fun D74 H84 np83 c82 r75 => ⟨([] : (List (Option (Int ⊕ (List Nat) ⊕ Bool ⊕ (List Int) ⊕ (List Bool))))), c0.trans c82.none, (Ty.ex r5 c82), (Ty.ex r27 c82), (Ty.ex r48 c82), (Ty.ex r56 c82), r75, Ty.nin r5 np83, Ty.nin r27 np83, Ty.nin r48 np83, Ty.nin r56 np83, one_fresh (c0.dom D74 np83), he72⟩) (fun D74 i87 x86 H88 hx85 hp => ?_) (fun D74 H' np83 hp => ?_)
         ·
           obtain ⟨s73, c0, r5, r27, r48, r56, r75, d76, d77, d78, d79, n81, hle72⟩ := hp
           obtain ⟨_, hbe72, hle72⟩ := Mi.forN_go hle72 hx85
           unfold Mi.m_l_deed_of_b2 at hbe72
           refine g_name (σ' := [some (.str (toS d0)), some (.ref p3), some (.ref p25), some (.str (toS x40)), some (.ref p46), some (.ref p54), some (.int x86)]) rfl ?_
           refine ⟨rfl, ?_⟩
           refine w_yes ?_
           refine iteT ?_
           refine w_call ?_
           obtain ⟨x95, hx95, hbe72⟩ := Mi.bnd hbe72
           obtain ⟨u96, r97, ku98⟩ := itm_L r48 hx95
           obtain ⟨_, rfl⟩ := r97
           obtain ⟨x99, hx99, hbe72⟩ := Mi.bnd hbe72
           obtain ⟨u100, r101, ku102⟩ := itm_L r5 hx99
           obtain ⟨_, rfl⟩ := r101
           refine w_args (va_cons (ku98 (val_var rfl) (val_var rfl)) (va_cons (ku102 (val_var rfl) (val_var rfl)) va_nil)) ?_
           obtain ⟨q103, hq103, hbe72⟩ := Mi.bnd hbe72
           refine ⟨x95, x99, q103, rfl, hq103, fun v106 H105 c104 r107  => ?_⟩
           have r5 := Ty.ex r5 c104
           have r27 := Ty.ex r27 c104
           have r48 := Ty.ex r48 c104
           have r56 := Ty.ex r56 c104
           have r75 := Ty.ex r75 c104
           have c0 := c0.trans c104.none
           obtain ⟨x108, hx108, hbe72⟩ := Mi.bnd hbe72
           refine e_app r75 r107 hx108 fun H110 c109 r75 => ?_
           have r5 := Ty.chg r5 c109 d76
           have r27 := Ty.chg r27 c109 d77
           have r48 := Ty.chg r48 c109 d78
           have r56 := Ty.chg r56 c109 d79
           have c0 := c0.join c109 (fun a h => .inr (n81 a h))
           obtain rfl := Option.some.inj hbe72
           exact ⟨x108, c0, r5, r27, r48, r56, r75, d76, d77, d78, d79, n81, hle72⟩
         obtain ⟨s73, c0, r5, r27, r48, r56, r75, d76, d77, d78, d79, n81, hle72⟩ := hp
         obtain rfl := Mi.forN_end hle72
         refine g_name (σ' := [some (.str (toS d0)), some (.ref p3), some (.ref p25), some (.str (toS x40)), some (.ref p46), some (.ref D74), none]) rfl ?_
         refine w_nextJ ?_
         obtain rfl := Option.some.inj hs63
         exact kx _ _ ⟨(.ref D74), [D74], rfl, c0, r5, r27, r48, r75, n81, d76.symm, d77.symm, d78.symm⟩
       ·
         replace hs63 := Mi.ifF hb hs63
         refine w_nextJ ?_
         obtain rfl := Option.some.inj hs63
         exact kx _ _ ⟨(.ref p54), [p54], rfl, c0, r5, r27, r48, r56, n62, d59.symm, d60.symm, d61.symm⟩
     obtain ⟨v64, F66, rfl, c0, r5, r27, r48, r65, n67, d68, d69, d70⟩ := hj
     refine q_ifS ?_
     obtain ⟨b111, hb111, hbe34⟩ := Mi.bnd hbe34
     refine j_tt b111 (R := fun H' => Chg ([] : List Addr) H0 H' ∧ (yLst yStr).rep K H' [p3] (.ref p3) x2 ∧ (yLst yStr).rep K H' [p25] (.ref p25) x24 ∧ (yLst yStr).rep K H' [p46] (.ref p46) x45 ∧ (yLst (yOpt (ySum yInt (ySum yStr (ySum yBool (ySum (yTupL yInt) (yTupL yBool))))))).rep K H' F66 v64 s63) (fun Q' kq => ?_) (fun H' hj => ?_)
     ·
       refine w_and ?_
       refine w_test ?_
       refine w_op ?_
       refine c_val val_c ?_
       refine c_val (val_var rfl) ?_
       obtain ⟨z112, hz112, hb111⟩ := Mi.bnd hb111
       refine w_niN dn5 r65 hz112 ?_
       refine ⟨_, rfl, ?_⟩
       refine c_if (fun hb => ?_) (fun hb => ?_)
       rotate_left
       ·
         replace hb111 := Mi.ifF hb hb111
         obtain rfl := Option.some.inj hb111
         exact kq _ ⟨c0, r5, r27, r48, r65⟩
       replace hb111 := Mi.ifT hb hb111
       refine w_test ?_
       refine w_op ?_
       obtain ⟨x113, hx113, hb111⟩ := Mi.bnd hb111
       obtain ⟨u114, r115, ku116⟩ := itm_L r65 hx113
       refine c_val (ku116 (val_var rfl) val_c) ?_
       refine c_val (val_cS (a := ([114, 101, 112, 111, 114, 116] : List Nat)) (by decide +kernel)) ?_
       obtain ⟨z117, hz117, hb111⟩ := Mi.bnd hb111
       refine w_eqT5 r115 hz117 ?_
       refine ⟨_, rfl, ?_⟩
       obtain rfl := Option.some.inj hb111
       exact kq _ ⟨c0, r5, r27, r48, r65⟩
     obtain ⟨c0, r5, r27, r48, r65⟩ := hj
     refine c_if (fun hb => ?_) (fun hb => ?_)
     ·
       replace hbe34 := Mi.ifT hb hbe34
       refine q_ret ?_
       refine w_tup ?_
       refine w_cons ?_
       refine c_val (val_cS (a := ([114, 101, 112, 111, 114, 116] : List Nat)) (by decide +kernel)) ?_
       refine w_cons ?_
       obtain ⟨x118, hx118, hbe34⟩ := Mi.bnd hbe34
       obtain ⟨u119, r120, ku121⟩ := itm_L r65 hx118
       refine c_val (ku121 (val_var rfl) val_c) ?_
       refine w_cons ?_
       obtain ⟨x122, hx122, hbe34⟩ := Mi.bnd hbe34
       obtain ⟨u123, r124, ku125⟩ := itm_L r65 hx122
       refine c_val (ku125 (val_var rfl) val_c) ?_
       refine w_cons ?_
       obtain ⟨x126, hx126, hbe34⟩ := Mi.bnd hbe34
       obtain ⟨u127, r128, ku129⟩ := itm_L r65 hx126
       refine c_val (ku129 (val_var rfl) val_c) ?_
       refine w_cons ?_
       refine w_op ?_
       obtain ⟨x130, hx130, hbe34⟩ := Mi.bnd hbe34
       obtain ⟨u131, r132, ku133⟩ := itm_L r65 hx130
       refine c_val (ku133 (val_var rfl) val_c) ?_
       refine c_val (val_cS (a := ([105, 110] : List Nat)) (by decide +kernel)) ?_
       obtain ⟨z134, hz134, hbe34⟩ := Mi.bnd hbe34
       refine w_eqT5 r132 hz134 ?_
       refine w_cons ?_
       obtain ⟨x135, hx135, hbe34⟩ := Mi.bnd hbe34
       obtain ⟨u136, r137, ku138⟩ := itm_L r65 hx135
       refine c_val (ku138 (val_var rfl) val_c) ?_
       refine w_nil ?_
       obtain ⟨x139, hx139, hbe34⟩ := Mi.bnd hbe34
       have r140 := opt_some r120 hx139
       obtain ⟨x141, hx141, hbe34⟩ := Mi.bnd hbe34
       have r142 := opt_some r124 hx141
       obtain ⟨x143, hx143, hbe34⟩ := Mi.bnd hbe34
       have r144 := opt_some r128 hx143
       obtain ⟨x145, hx145, hbe34⟩ := Mi.bnd hbe34
       have r146 := opt_some r137 hx145
       refine e_tupl (K := K) (τ := (ySum yInt (ySum yStr (ySum yBool (ySum (yTupL yInt) (yTupL yBool)))))) (xs := ([(.inr (.inl ([114, 101, 112, 111, 114, 116] : List Nat))), x139, x141, x143, (.inr (.inr (.inl (Mi.eqTx ([105, 110] : List Nat) x130)))), x145] : (List (Int ⊕ (List Nat) ⊕ Bool ⊕ (List Int) ⊕ (List Bool))))) (by exact Nat.le_of_ble_eq_true rfl) (.cons (sum_r (sum_l yStr_i)) (.cons r140 (.cons r142 (.cons r144 (.cons (sum_r (sum_r (sum_l yBool_i))) (.cons r146 .nil)))))) fun p147 H151 np150 c148 r149 => ?_
       have r5 := Ty.ex r5 c148
       have r27 := Ty.ex r27 c148
       have r48 := Ty.ex r48 c148
       have r65 := Ty.ex r65 c148
       have r140 := Ty.fz r140 c148
       have r142 := Ty.fz r142 c148
       have r144 := Ty.fz r144 c148
       have r146 := Ty.fz r146 c148
       have c0 := c0.trans c148.none
       obtain rfl := Option.some.inj hbe34
       obtain rfl := Mi.or_inl hore34
       obtain rfl := Option.some.inj (Mi.orR_inl hm)
       exact hQ _ _ c0 (opt_i (nn_tupl r149) r149) 
     replace hbe34 := Mi.ifF hb hbe34
     refine w_fall ?_
     refine q_ifS ?_
     obtain ⟨b152, hb152, hbe34⟩ := Mi.bnd hbe34
     refine j_tt b152 (R := fun H' => Chg ([] : List Addr) H0 H' ∧ (yLst yStr).rep K H' [p3] (.ref p3) x2 ∧ (yLst yStr).rep K H' [p25] (.ref p25) x24 ∧ (yLst yStr).rep K H' [p46] (.ref p46) x45 ∧ (yLst (yOpt (ySum yInt (ySum yStr (ySum yBool (ySum (yTupL yInt) (yTupL yBool))))))).rep K H' F66 v64 s63) (fun Q' kq => ?_) (fun H' hj => ?_)
     ·
       refine w_and ?_
       refine w_test ?_
       refine w_op ?_
       refine c_val val_c ?_
       refine c_val (val_var rfl) ?_
       obtain ⟨z153, hz153, hb152⟩ := Mi.bnd hb152
       refine w_niN dn5 r65 hz153 ?_
       refine ⟨_, rfl, ?_⟩
       refine c_if (fun hb => ?_) (fun hb => ?_)
       rotate_left
       ·
         replace hb152 := Mi.ifF hb hb152
         obtain rfl := Option.some.inj hb152
         exact kq _ ⟨c0, r5, r27, r48, r65⟩
       replace hb152 := Mi.ifT hb hb152
       refine w_test ?_
       refine w_op ?_
       obtain ⟨x154, hx154, hb152⟩ := Mi.bnd hb152
       obtain ⟨u155, r156, ku157⟩ := itm_L r65 hx154
       refine c_val (ku157 (val_var rfl) val_c) ?_
       refine c_val (val_cS (a := ([114, 101, 99, 101, 105, 118, 101] : List Nat)) (by decide +kernel)) ?_
       obtain ⟨z158, hz158, hb152⟩ := Mi.bnd hb152
       refine w_eqT5 r156 hz158 ?_
       refine ⟨_, rfl, ?_⟩
       obtain rfl := Option.some.inj hb152
       exact kq _ ⟨c0, r5, r27, r48, r65⟩
     obtain ⟨c0, r5, r27, r48, r65⟩ := hj
     refine c_if (fun hb => ?_) (fun hb => ?_)
     ·
       replace hbe34 := Mi.ifT hb hbe34
       refine q_ret ?_
       refine w_tup ?_
       obtain ⟨x159, hx159, hbe34⟩ := Mi.bnd hbe34
       obtain ⟨u160, r161, ku162⟩ := itm_L r65 hx159
       obtain ⟨x163, hx163, hbe34⟩ := Mi.bnd hbe34
       obtain ⟨u164, r165, ku166⟩ := itm_L r65 hx163
       obtain ⟨x167, hx167, hbe34⟩ := Mi.bnd hbe34
       obtain ⟨u168, r169, ku170⟩ := itm_L r65 hx167
       obtain ⟨x171, hx171, hbe34⟩ := Mi.bnd hbe34
       obtain ⟨u172, r173, ku174⟩ := itm_L r65 hx171
       refine w_args (va_cons (val_cS (a := ([114, 101, 99, 101, 105, 118, 101] : List Nat)) (by decide +kernel)) (va_cons (ku162 (val_var rfl) val_c) (va_cons (ku166 (val_var rfl) val_c) (va_cons (ku170 (val_var rfl) val_c) (va_cons (ku174 (val_var rfl) val_c) va_nil))))) ?_
       obtain ⟨x175, hx175, hbe34⟩ := Mi.bnd hbe34
       have r176 := opt_some r161 hx175
       obtain ⟨x177, hx177, hbe34⟩ := Mi.bnd hbe34
       have r178 := opt_some r165 hx177
       obtain ⟨x179, hx179, hbe34⟩ := Mi.bnd hbe34
       have r180 := opt_some r169 hx179
       obtain ⟨x181, hx181, hbe34⟩ := Mi.bnd hbe34
       have r182 := opt_some r173 hx181
       refine e_tupl (K := K) (τ := (ySum yInt (ySum yStr (ySum yBool (ySum (yTupL yInt) (yTupL yBool)))))) (xs := ([(.inr (.inl ([114, 101, 99, 101, 105, 118, 101] : List Nat))), x175, x177, x179, x181] : (List (Int ⊕ (List Nat) ⊕ Bool ⊕ (List Int) ⊕ (List Bool))))) (by exact Nat.le_of_ble_eq_true rfl) (.cons (sum_r (sum_l yStr_i)) (.cons r176 (.cons r178 (.cons r180 (.cons r182 .nil))))) fun p183 H187 np186 c184 r185 => ?_
       have r5 := Ty.ex r5 c184
       have r27 := Ty.ex r27 c184
       have r48 := Ty.ex r48 c184
       have r65 := Ty.ex r65 c184
       have r176 := Ty.fz r176 c184
       have r178 := Ty.fz r178 c184
       have r180 := Ty.fz r180 c184
       have r182 := Ty.fz r182 c184
       have c0 := c0.trans c184.none
       obtain rfl := Option.some.inj hbe34
       obtain rfl := Mi.or_inl hore34
       obtain rfl := Option.some.inj (Mi.orR_inl hm)
       exact hQ _ _ c0 (opt_i (nn_tupl r185) r185) 
     replace hbe34 := Mi.ifF hb hbe34
     refine w_fall ?_
     refine q_ifS ?_
     refine w_test ?_
     refine w_op ?_
     refine c_val val_c ?_
     refine c_val (val_var rfl) ?_
     obtain ⟨z188, hz188, hbe34⟩ := Mi.bnd hbe34
     refine w_niN dn5 r65 hz188 ?_
     refine ⟨_, rfl, ?_⟩
     refine c_if (fun hb => ?_) (fun hb => ?_)
     ·
       replace hbe34 := Mi.ifT hb hbe34
       refine q_ret ?_
       refine w_tup ?_
       obtain ⟨x189, hx189, hbe34⟩ := Mi.bnd hbe34
       obtain ⟨u190, r191, ku192⟩ := itm_L r65 hx189
       refine w_args (va_cons (val_cS (a := ([119, 105, 116, 104, 100, 114, 97, 119] : List Nat)) (by decide +kernel)) (va_cons (ku192 (val_var rfl) val_c) va_nil)) ?_
       obtain ⟨x193, hx193, hbe34⟩ := Mi.bnd hbe34
       have r194 := opt_some r191 hx193
       refine e_tupl (K := K) (τ := (ySum yInt (ySum yStr (ySum yBool (ySum (yTupL yInt) (yTupL yBool)))))) (xs := ([(.inr (.inl ([119, 105, 116, 104, 100, 114, 97, 119] : List Nat))), x193] : (List (Int ⊕ (List Nat) ⊕ Bool ⊕ (List Int) ⊕ (List Bool))))) (by exact Nat.le_of_ble_eq_true rfl) (.cons (sum_r (sum_l yStr_i)) (.cons r194 .nil)) fun p195 H199 np198 c196 r197 => ?_
       have r5 := Ty.ex r5 c196
       have r27 := Ty.ex r27 c196
       have r48 := Ty.ex r48 c196
       have r65 := Ty.ex r65 c196
       have r194 := Ty.fz r194 c196
       have c0 := c0.trans c196.none
       obtain rfl := Option.some.inj hbe34
       obtain rfl := Mi.or_inl hore34
       obtain rfl := Option.some.inj (Mi.orR_inl hm)
       exact hQ _ _ c0 (opt_i (nn_tupl r197) r197) 
     replace hbe34 := Mi.ifF hb hbe34
     refine w_fall ?_
     refine w_nextJ ?_
     obtain rfl := Option.some.inj hbe34
     replace hore34 := Mi.or_inr hore34
     exact ⟨_, (some (.str (toS x40))), (some (.ref p46)), (some v64), rfl, c0, r5, r27, hore34⟩
   obtain ⟨s35, y36, y37, y38, rfl, c0, r5, r27, hle34⟩ := hp
   obtain rfl := Mi.forR_end hle34
   replace hm := Mi.orR_inr hm
   refine q_ret ?_
   refine c_val val_c ?_
   obtain rfl := Option.some.inj hm
   exact hQ _ _ c0 opt_n 
theorem sc_l_reading : FnScope ["_law_text", "_law_lot_here", "_law_lines", "_law_k", "_law_deed_here"] ["_law_text"] (defScope s_l_reading) := ⟨rfl, rfl, rfl, by decide +kernel, rfl, by decide +kernel, by decide +kernel⟩
def sp_l_reading (K : PySem.W.Frag) : Sp := fun vs H Q _ => ∃ (d0 : (List Nat)) (r : (Int × (Option (List (List (Int ⊕ (List Nat) ⊕ Bool ⊕ (List Int) ⊕ (List Bool))))))), vs = [(.str (toS d0))] ∧ Mi.m_l_reading d0 = some r ∧ ∀ v H' F, Chg ([]) H H' → (yTup (sCons yInt (sOne (yOpt (yLst (yTupL (ySum yInt (ySum yStr (ySum yBool (ySum (yTupL yInt) (yTupL yBool))))))))))).rep K H' F v r → (∀ a ∈ F, H a = none) → Q v H'
theorem ok_l_reading (B : Bi mg) (CN : Cs w K mg) (D : Dfn K mg "_law_reading" s_l_reading) (C_l_deed_of : Cal P w K mg "_law_deed_of" ["_law_line"] 4 (sp_l_deed_of K)) : Cal P w K mg "_law_reading" ["_law_text"] 5 (sp_l_reading K) := by
 obtain ⟨f, fd, F, g⟩ := D.ex
 refine ⟨f, fd, g, F.kp, bindsF F (fun _ _ _ _ _ _ us hl => match us, hl with | [_], _ => rfl), fun base => F.ok sc_l_reading (fun vs H Q E h => ?_) (fun cdv A outer s H0 vs Q E hr h => ?_)⟩
 · obtain ⟨d0, r, rfl, hm, hQ⟩ := h; rfl
 ·
   obtain ⟨d0, r, rfl, hm, hQ⟩ := h
   refine ⟨_, pss_cons (ps_set (i := 1) sc_l_reading.nd rfl (.inl rfl) (pe_lst pa_nil))
     (pss_cons (ps_if (pt_cmpR op_eq (pv 0) pe_str (nomark _)) (pss_cons (ps_ret (pe_tup (pa_cons pe_int (pa_cons (pv 1) pa_nil)))) pss_nil) (pss_nil))
     (pss_cons (ps_set (i := 2) sc_l_reading.nd rfl (.inl rfl) (pe_spl (pv 0) pe_str))
     (pss_cons (ps_for PassesOwn.never rfl (pi_range1 (by rfl) B.range (pa_cons (pe_callB (cl_len (K := K)) (by rfl) B.len PySem.boot_len (pa_cons (pv 2) pa_nil)) pa_nil)) (pg_name (i := 3) sc_l_reading.nd rfl (.inl rfl)) (pss_cons (ps_set (i := 4) sc_l_reading.nd rfl (.inl rfl) (pe_cc C_l_deed_of hr (pa_cons (pe_ix (ix_l (K := K)) (pv 2) (pv 3) (fun _ _ => rfl)) pa_nil)))
     (pss_cons (ps_if (pt_cmpR op_isN1 (pv 4) pe_non (nomark _)) (pss_cons (ps_ret (pe_tup (pa_cons (pe_op op_add (pv 3) pe_int) (pa_cons pe_non pa_nil)))) pss_nil) (pss_nil))
     (pss_cons (ps_expr (pe_bm PySem.F.plainAttrs_list PySem.F.slot_list_append PySem.F.type_list_append mt_append (pv 1) (pa_cons (pv 4) pa_nil)))
     (pss_nil)))))
     (pss_cons (ps_ret (pe_tup (pa_cons pe_int (pa_cons (pv 1) pa_nil)))) pss_nil)))), ?_⟩
   have c0 : Chg ([] : List Addr) H0 H0 := Chg.refl H0
   unfold Mi.m_l_reading at hm
   refine q_asg ?_
   refine w_lst ?_
   refine w_args va_nil ?_
   refine e_lst (K := K) (τ := (yTupL (ySum yInt (ySum yStr (ySum yBool (ySum (yTupL yInt) (yTupL yBool))))))) (by exact Nat.le_of_ble_eq_true rfl) .nil fun p2 H6 np5 c3 r4 => ?_
   have n7 : ∀ a ∈ [p2], H0 a = none := one_fresh (c0.dom p2 np5)
   have c0 := c0.trans c3.none
   refine g_name (σ' := [some (.str (toS d0)), some (.ref p2), none, none, none]) rfl ?_
   refine q_if (ans_t (val_eqS (val_var rfl) (val_cS (a := ([] : List Nat)) (by decide +kernel)))) (fun hb => ?_) (fun hb => ?_)
   ·
     replace hm := Mi.ifT hb hm
     refine q_ret ?_
     refine w_tup ?_
     refine w_args (va_cons val_c (va_cons (val_var rfl) va_nil)) ?_
     refine e_tup (K := K) (ty := (sCons yInt (sOne (yOpt (yLst (yTupL (ySum yInt (ySum yStr (ySum yBool (ySum (yTupL yInt) (yTupL yBool))))))))))) (F := ([] ++ [p2])) (d := ((0 : Int), (some ([] : (List (List (Int ⊕ (List Nat) ⊕ Bool ⊕ (List Int) ⊕ (List Bool)))))))) (by exact Nat.le_of_ble_eq_true rfl) ⟨_, _, _, _, rfl, rfl, yInt_i, ⟨_, rfl, (opt_i (nn_lst r4) r4)⟩⟩ fun p8 H12 np11 c9 r10  => ?_
     have r4 := Ty.ex r4 c9
     have c0 := c0.trans c9.none
     obtain rfl := Option.some.inj hm
     exact hQ _ _ _ c0 r10 (app_fresh nil_fresh n7) 
   replace hm := Mi.ifF hb hm
   refine w_fall ?_
   refine q_asg ?_
   refine w_m1 ?_
   refine c_val (val_var rfl) ?_
   refine ⟨⟨_, rfl⟩, ?_⟩
   refine c_val (val_cS (a := ([10] : List Nat)) (by decide +kernel)) ?_
   obtain ⟨x13, hx13, hm⟩ := Mi.bnd hm
   refine w_spl (K := K) hx13 fun p14 H18 np17 c15 r16 => ?_
   have d19 : Dj [p2] [p14] := Ty.nin r4 np17
   have n20 : ∀ a ∈ [p14], H0 a = none := one_fresh (c0.dom p14 np17)
   have r4 := Ty.ex r4 c15
   have c0 := c0.trans c15.none
   refine g_name (σ' := [some (.str (toS d0)), some (.ref p2), some (.ref p14), none, none]) rfl ?_
   refine q_for ?_
   refine w_iRng1 ?_
   refine w_args (va_cons (val_lenL r16 (val_var rfl)) va_nil) ?_
   obtain ⟨g21, hg21, hm⟩ := Mi.bnd hm
   obtain ⟨e22, he22, hm⟩ := Mi.bnd hm
   refine l_rng1 hg21 (fun i σ' H' => ∃ (s23 : (List (List (Int ⊕ (List Nat) ⊕ Bool ⊕ (List Int) ⊕ (List Bool))))) (y24 : Option V) (y25 : Option V), σ' = [some (.str (toS d0)), some (.ref p2), some (.ref p14), y24, y25] ∧ Chg ([] : List Addr) H0 H' ∧ (yLst (yTupL (ySum yInt (ySum yStr (ySum yBool (ySum (yTupL yInt) (yTupL yBool))))))).rep K H' [p2] (.ref p2) s23 ∧ (yLst yStr).rep K H' [p14] (.ref p14) x13 ∧ Mi.forR (Mi.m_l_reading_b1 x13) s23 (List.drop i g21) = some e22) ⟨([] : (List (List (Int ⊕ (List Nat) ⊕ Bool ⊕ (List Int) ⊕ (List Bool))))), none, none, rfl, c0, r4, r16, he22⟩ (fun i28 x27 σ' H' hx26 hp => ?_) (fun σ' H' hp => ?_)
   ·
     obtain ⟨s23, y24, y25, rfl, c0, r4, r16, hle22⟩ := hp
     obtain ⟨o29, hbe22, hore22⟩ := Mi.forR_go hle22 hx26
     unfold Mi.m_l_reading_b1 at hbe22
     refine g_name (σ' := [some (.str (toS d0)), some (.ref p2), some (.ref p14), some (.int x27), y25]) rfl ?_
     refine q_asg ?_
     refine w_call ?_
     obtain ⟨x30, hx30, hbe22⟩ := Mi.bnd hbe22
     obtain ⟨u31, r32, ku33⟩ := itm_L r16 hx30
     obtain ⟨_, rfl⟩ := r32
     refine w_args (va_cons (ku33 (val_var rfl) (val_var rfl)) va_nil) ?_
     obtain ⟨q34, hq34, hbe22⟩ := Mi.bnd hbe22
     refine ⟨x30, q34, rfl, hq34, fun v37 H36 c35 r38  => ?_⟩
     have r4 := Ty.ex r4 c35
     have r16 := Ty.ex r16 c35
     have c0 := c0.trans c35.none
     refine g_name (σ' := [some (.str (toS d0)), some (.ref p2), some (.ref p14), some (.int x27), some v37]) rfl ?_
     refine q_if (ans_t (val_isN r38 (val_var rfl))) (fun hb => ?_) (fun hb => ?_)
     ·
       replace hbe22 := Mi.ifT hb hbe22
       refine q_ret ?_
       refine w_tup ?_
       refine w_args (va_cons (val_add (val_var rfl) val_c) (va_cons val_c va_nil)) ?_
       refine e_tup (K := K) (ty := (sCons yInt (sOne (yOpt (yLst (yTupL (ySum yInt (ySum yStr (ySum yBool (ySum (yTupL yInt) (yTupL yBool))))))))))) (F := ([] ++ [])) (d := ((x27 + (1 : Int)), (none : (Option (List (List (Int ⊕ (List Nat) ⊕ Bool ⊕ (List Int) ⊕ (List Bool)))))))) (by exact Nat.le_of_ble_eq_true rfl) ⟨_, _, _, _, rfl, rfl, yInt_i, ⟨_, rfl, opt_n⟩⟩ fun p39 H43 np42 c40 r41  => ?_
       have r4 := Ty.ex r4 c40
       have r16 := Ty.ex r16 c40
       have r38 := Ty.fz r38 c40
       have c0 := c0.trans c40.none
       have d44 : Dj ([] ++ []) [p2] := (Dj.app (Dj.nil) (Dj.nil))
       have d45 : Dj ([] ++ []) [p14] := (Dj.app (Dj.nil) (Dj.nil))
       obtain rfl := Option.some.inj hbe22
       obtain rfl := Mi.or_inl hore22
       obtain rfl := Option.some.inj (Mi.orR_inl hm)
       exact hQ _ _ _ c0 r41 (app_fresh nil_fresh nil_fresh) 
     replace hbe22 := Mi.ifF hb hbe22
     refine w_fall ?_
     refine q_drop (w_bm (c_val (val_var rfl) ⟨tyv_lst r4, ?_⟩))
     refine w_args (va_cons (val_var rfl) va_nil) ?_
     obtain ⟨x46, hx46, hbe22⟩ := Mi.bnd hbe22
     have r47 := opt_some r38 hx46
     obtain ⟨x48, hx48, hbe22⟩ := Mi.bnd hbe22
     refine m_app r4 r47 hx48 fun H50 c49 r4 => ?_
     have r16 := Ty.chg r16 c49 d19.symm
     have r47 := Ty.fz r47 c49
     have c0 := c0.join c49 (fun a h => .inr (n7 a h))
     refine w_nextJ ?_
     obtain rfl := Option.some.inj hbe22
     replace hore22 := Mi.or_inr hore22
     exact ⟨_, (some (.int x27)), (some v37), rfl, c0, r4, r16, hore22⟩
   obtain ⟨s23, y24, y25, rfl, c0, r4, r16, hle22⟩ := hp
   obtain rfl := Mi.forR_end hle22
   replace hm := Mi.orR_inr hm
   refine q_ret ?_
   refine w_tup ?_
   refine w_args (va_cons val_c (va_cons (val_var rfl) va_nil)) ?_
   refine e_tup (K := K) (ty := (sCons yInt (sOne (yOpt (yLst (yTupL (ySum yInt (ySum yStr (ySum yBool (ySum (yTupL yInt) (yTupL yBool))))))))))) (F := ([] ++ [p2])) (d := ((0 : Int), (some s23))) (by exact Nat.le_of_ble_eq_true rfl) ⟨_, _, _, _, rfl, rfl, yInt_i, ⟨_, rfl, (opt_i (nn_lst r4) r4)⟩⟩ fun p51 H55 np54 c52 r53  => ?_
   have r4 := Ty.ex r4 c52
   have r16 := Ty.ex r16 c52
   have c0 := c0.trans c52.none
   have d56 : Dj ([] ++ [p2]) [p14] := (Dj.app (Dj.nil) (d19))
   obtain rfl := Option.some.inj hm
   exact hQ _ _ _ c0 r53 (app_fresh nil_fresh n7) 
theorem sc_l_sign : FnScope ["_law_hand_here", "_law_chars"] ["_law_hand_here"] (defScope s_l_sign) := ⟨rfl, rfl, rfl, by decide +kernel, rfl, by decide +kernel, by decide +kernel⟩
def sp_l_sign (K : PySem.W.Frag) : Sp := fun vs H Q _ => ∃ (v0 : V) (F0 : List Addr) (d0 : (List Int)) (r : ((List Nat) × (List Int))), vs = [v0] ∧ (yLst yInt).rep K H F0 v0 d0 ∧ Mi.m_l_sign d0 = some r ∧ ∀ H', Chg (F0) H H' → (yLst yInt).rep K H' F0 v0 r.2 → Q (.str (toS r.1)) H'
theorem ok_l_sign (B : Bi mg) (CN : Cs w K mg) (D : Dfn K mg "_law_sign" s_l_sign) (C_l_pick : Cal P w K mg "_law_pick" ["_law_hand_here", "_law_size"] 1 (sp_l_pick K)) : Cal P w K mg "_law_sign" ["_law_hand_here"] 2 (sp_l_sign K) := by
 obtain ⟨f, fd, F, g⟩ := D.ex
 refine ⟨f, fd, g, F.kp, bindsF F (fun _ _ _ _ _ _ us hl => match us, hl with | [_], _ => rfl), fun base => F.ok sc_l_sign (fun vs H Q E h => ?_) (fun cdv A outer s H0 vs Q E hr h => ?_)⟩
 · obtain ⟨v0, F0, d0, r, rfl, r0, hm, hQ⟩ := h; rfl
 ·
   obtain ⟨v0, F0, d0, r, rfl, r0, hm, hQ⟩ := h
   refine ⟨_, pss_cons (ps_if (pt_cmpR op_eq (pe_cc C_l_pick hr (pa_cons (pv 0) (pa_cons pe_int pa_nil))) pe_int (nomark _)) (pss_cons (ps_ret (pe_ix ix_str pe_str (pe_cc C_l_pick hr (pa_cons (pv 0) (pa_cons pe_int pa_nil))) (fun _ _ => rfl))) pss_nil) (pss_nil))
     (pss_cons (ps_set (i := 1) sc_l_sign.nd rfl (.inl rfl) pe_str)
     (pss_cons (ps_set (i := 1) sc_l_sign.nd rfl (.inl rfl) (pe_op op_catS (pv 1) pe_str))
     (pss_cons (ps_ret (pe_ix ix_str (pv 1) (pe_cc C_l_pick hr (pa_cons (pv 0) (pa_cons (pe_callB cl_lenTx (by rfl) B.len PySem.boot_len (pa_cons (pv 1) pa_nil)) pa_nil))) (fun _ _ => rfl))) pss_nil))), ?_⟩
   have c0 : Chg (F0) H0 H0 := Chg.refl H0
   unfold Mi.m_l_sign at hm
   refine q_ifS ?_
   refine w_test ?_
   refine w_op ?_
   refine w_call ?_
   refine w_args (va_cons (val_var rfl) (va_cons val_c va_nil)) ?_
   obtain ⟨q2, hq2, hm⟩ := Mi.bnd hm
   refine ⟨v0, F0, d0, (2 : Int), q2, rfl, r0, hq2, fun H4 c3 r0 => ?_⟩
   have c0 := c0.join c3 (fun a h => .inl (h))
   refine c_val val_c ?_
   refine w_eqI ?_
   refine ⟨_, rfl, ?_⟩
   refine c_if (fun hb => ?_) (fun hb => ?_)
   ·
     replace hm := Mi.ifT hb hm
     refine q_ret ?_
     refine w_op ?_
     refine c_val (val_cS (a := ([48, 49, 50, 51, 52, 53, 54, 55, 56, 57, 44, 45, 64, 32, 107, 115, 105, 110, 121, 116] : List Nat)) (by decide +kernel)) ?_
     refine w_call ?_
     refine w_args (va_cons (val_var rfl) (va_cons val_c va_nil)) ?_
     obtain ⟨q5, hq5, hm⟩ := Mi.bnd hm
     refine ⟨v0, F0, q2.2, (20 : Int), q5, rfl, r0, hq5, fun H7 c6 r0 => ?_⟩
     have c0 := c0.join c6 (fun a h => .inl (h))
     obtain ⟨x8, hx8, hm⟩ := Mi.bnd hm
     refine w_ixS hx8 ?_
     obtain rfl := Option.some.inj hm
     exact hQ _ c0 r0
   replace hm := Mi.ifF hb hm
   refine w_fall ?_
   obtain ⟨chars9, hchars9, hm⟩ := Mi.letE hm
   refine q_setE (val_cS (a := ([32, 33, 34, 35, 36, 38, 39, 40, 41, 42, 43, 44, 45, 46, 47, 48, 49, 50, 51, 52, 53, 54, 55, 56, 57, 58, 59, 60, 61, 62, 63, 64, 65, 66, 67, 68, 69, 70, 71, 72, 73, 74, 75, 76, 77, 78, 79, 80, 81, 82, 83, 84, 85, 86, 87, 88, 89, 90, 91, 92, 93, 94, 95, 96] : List Nat)) (by decide +kernel)) (congrArg (fun z => V.str (toS z)) hchars9) (σ' := [some v0, some (.str (toS chars9))]) rfl ?_
   obtain ⟨x10, hx10, hm⟩ := Mi.bnd hm
   obtain ⟨chars11, hchars11, hm⟩ := Mi.letE hm
   refine q_setE (val_catS hx10 (val_var rfl) (val_cS (a := ([97, 98, 99, 100, 101, 102, 103, 104, 105, 106, 107, 108, 109, 110, 111, 112, 113, 114, 115, 116, 117, 118, 119, 120, 121, 122, 123, 124, 125, 126] : List Nat)) (by decide +kernel))) (congrArg (fun z => V.str (toS z)) hchars11) (σ' := [some v0, some (.str (toS chars11))]) rfl ?_
   refine q_ret ?_
   refine w_op ?_
   refine c_val (val_var rfl) ?_
   refine w_call ?_
   obtain ⟨x12, hx12, hm⟩ := Mi.bnd hm
   refine w_args (va_cons (val_var rfl) (va_cons (val_lenTx hx12 (val_var rfl)) va_nil)) ?_
   obtain ⟨q13, hq13, hm⟩ := Mi.bnd hm
   refine ⟨v0, F0, q2.2, x12, q13, rfl, r0, hq13, fun H15 c14 r0 => ?_⟩
   have c0 := c0.join c14 (fun a h => .inl (h))
   obtain ⟨x16, hx16, hm⟩ := Mi.bnd hm
   refine w_ixS hx16 ?_
   obtain rfl := Option.some.inj hm
   exact hQ _ c0 r0
theorem sc_l_bent : FnScope ["_law_hand_here", "_law_word", "_law_kind", "_law_spot", "_law_sign_here"] ["_law_hand_here", "_law_word"] (defScope s_l_bent) := ⟨rfl, rfl, rfl, by decide +kernel, rfl, by decide +kernel, by decide +kernel⟩
def sp_l_bent (K : PySem.W.Frag) : Sp := fun vs H Q _ => ∃ (v0 : V) (F0 : List Addr) (d0 : (List Int)) (d1 : (List Nat)) (r : ((List Nat) × (List Int))), vs = [v0, (.str (toS d1))] ∧ (yLst yInt).rep K H F0 v0 d0 ∧ Mi.m_l_bent d0 d1 = some r ∧ ∀ H', Chg (F0) H H' → (yLst yInt).rep K H' F0 v0 r.2 → Q (.str (toS r.1)) H'
theorem ok_l_bent (B : Bi mg) (CN : Cs w K mg) (D : Dfn K mg "_law_bent" s_l_bent) (C_l_pick : Cal P w K mg "_law_pick" ["_law_hand_here", "_law_size"] 1 (sp_l_pick K)) (C_l_sign : Cal P w K mg "_law_sign" ["_law_hand_here"] 2 (sp_l_sign K)) : Cal P w K mg "_law_bent" ["_law_hand_here", "_law_word"] 3 (sp_l_bent K) := by
 obtain ⟨f, fd, F, g⟩ := D.ex
 refine ⟨f, fd, g, F.kp, bindsF F (fun _ _ _ _ _ _ us hl => match us, hl with | [_, _], _ => rfl), fun base => F.ok sc_l_bent (fun vs H Q E h => ?_) (fun cdv A outer s H0 vs Q E hr h => ?_)⟩
 · obtain ⟨v0, F0, d0, d1, r, rfl, r0, hm, hQ⟩ := h; rfl
 ·
   obtain ⟨v0, F0, d0, d1, r, rfl, r0, hm, hQ⟩ := h
   refine ⟨_, pss_cons (ps_set (i := 2) sc_l_bent.nd rfl (.inl rfl) (pe_cc C_l_pick hr (pa_cons (pv 0) (pa_cons pe_int pa_nil))))
     (pss_cons (ps_set (i := 3) sc_l_bent.nd rfl (.inl rfl) (pe_cc C_l_pick hr (pa_cons (pv 0) (pa_cons (pe_op op_add (pe_callB cl_lenTx (by rfl) B.len PySem.boot_len (pa_cons (pv 1) pa_nil)) pe_int) pa_nil))))
     (pss_cons (ps_set (i := 4) sc_l_bent.nd rfl (.inl rfl) (pe_cc C_l_sign hr (pa_cons (pv 0) pa_nil)))
     (pss_cons (ps_if (pt_cmpR op_lt (pv 2) pe_int (nomark _)) (pss_cons (ps_ret (pe_ix (ix_l (K := K)) (pe_lst (pa_cons (pe_op op_catS pe_str (pv 1)) (pa_cons (pe_op op_catS (pv 1) pe_str) (pa_cons (pe_op op_catS (pv 1) pe_str) (pa_cons (pe_up (pv 1)) pa_nil))))) (pv 2) (fun _ _ => rfl))) pss_nil) (pss_nil))
     (pss_cons (ps_if (pt_cmpR op_lt (pv 2) pe_int (nomark _)) (pss_cons (ps_ret (pe_op op_catS (pe_op op_catS (pe_slice sl_str (pv 1) po_none (po_some (pv 3))) (pv 4)) (pe_slice sl_str (pv 1) (po_some (pe_op op_add (pv 3) pe_int)) po_none))) pss_nil) (pss_nil))
     (pss_cons (ps_if (pt_cmpR op_eq (pv 2) pe_int (nomark _)) (pss_cons (ps_ret (pe_op op_catS (pe_op op_catS (pe_slice sl_str (pv 1) po_none (po_some (pv 3))) (pv 4)) (pe_slice sl_str (pv 1) (po_some (pv 3)) po_none))) pss_nil) (pss_nil))
     (pss_cons (ps_ret (pe_op op_catS (pe_slice sl_str (pv 1) po_none (po_some (pv 3))) (pe_slice sl_str (pv 1) (po_some (pe_op op_add (pv 3) pe_int)) po_none))) pss_nil)))))), ?_⟩
   have c0 : Chg (F0) H0 H0 := Chg.refl H0
   unfold Mi.m_l_bent at hm
   refine q_asg ?_
   refine w_call ?_
   refine w_args (va_cons (val_var rfl) (va_cons val_c va_nil)) ?_
   obtain ⟨q3, hq3, hm⟩ := Mi.bnd hm
   refine ⟨v0, F0, d0, (8 : Int), q3, rfl, r0, hq3, fun H5 c4 r0 => ?_⟩
   have c0 := c0.join c4 (fun a h => .inl (h))
   refine g_name (σ' := [some v0, some (.str (toS d1)), some (.int q3.1), none, none]) rfl ?_
   refine q_asg ?_
   refine w_call ?_
   obtain ⟨x6, hx6, hm⟩ := Mi.bnd hm
   refine w_args (va_cons (val_var rfl) (va_cons (val_add (val_lenTx hx6 (val_var rfl)) val_c) va_nil)) ?_
   obtain ⟨q7, hq7, hm⟩ := Mi.bnd hm
   refine ⟨v0, F0, q3.2, (x6 + (1 : Int)), q7, rfl, r0, hq7, fun H9 c8 r0 => ?_⟩
   have c0 := c0.join c8 (fun a h => .inl (h))
   refine g_name (σ' := [some v0, some (.str (toS d1)), some (.int q3.1), some (.int q7.1), none]) rfl ?_
   refine q_asg ?_
   refine w_call ?_
   refine w_args (va_cons (val_var rfl) va_nil) ?_
   obtain ⟨q10, hq10, hm⟩ := Mi.bnd hm
   refine ⟨v0, F0, q7.2, q10, rfl, r0, hq10, fun H12 c11 r0 => ?_⟩
   have c0 := c0.join c11 (fun a h => .inl (h))
   refine g_name (σ' := [some v0, some (.str (toS d1)), some (.int q3.1), some (.int q7.1), some (.str (toS q10.1))]) rfl ?_
   refine q_if (ans_t (val_lt (val_var rfl) val_c)) (fun hb => ?_) (fun hb => ?_)
   ·
     replace hm := Mi.ifT hb hm
     refine q_ret ?_
     refine w_op ?_
     refine w_lst ?_
     refine w_cons ?_
     obtain ⟨x13, hx13, hm⟩ := Mi.bnd hm
     refine c_val (val_catS hx13 (val_cS (a := ([48] : List Nat)) (by decide +kernel)) (val_var rfl)) ?_
     refine w_cons ?_
     obtain ⟨x14, hx14, hm⟩ := Mi.bnd hm
     refine c_val (val_catS hx14 (val_var rfl) (val_cS (a := ([48] : List Nat)) (by decide +kernel))) ?_
     refine w_cons ?_
     obtain ⟨x15, hx15, hm⟩ := Mi.bnd hm
     refine c_val (val_catS hx15 (val_var rfl) (val_cS (a := ([44] : List Nat)) (by decide +kernel))) ?_
     refine w_cons ?_
     refine w_m0 ?_
     refine c_val (val_var rfl) ?_
     refine ⟨⟨_, rfl⟩, ?_⟩
     obtain ⟨x16, hx16, hm⟩ := Mi.bnd hm
     refine w_up hx16 ?_
     refine w_nil ?_
     refine e_lst (K := K) (τ := yStr) (by exact Nat.le_of_ble_eq_true rfl) (.cons yStr_i (.cons yStr_i (.cons yStr_i (.cons yStr_i .nil)))) fun p17 H21 np20 c18 r19 => ?_
     have d22 : Dj F0 [p17] := Ty.nin r0 np20
     have n23 : ∀ a ∈ [p17], H0 a = none := one_fresh (c0.dom p17 np20)
     have r0 := Ty.ex r0 c18
     have c0 := c0.trans c18.none
     refine c_val (val_var rfl) ?_
     obtain ⟨x24, hx24, hm⟩ := Mi.bnd hm
     refine w_ixL r19 hx24 fun u25 r26 => ?_
     obtain ⟨_, rfl⟩ := r26
     obtain rfl := Option.some.inj hm
     exact hQ _ c0 r0
   replace hm := Mi.ifF hb hm
   refine w_fall ?_
   refine q_if (ans_t (val_lt (val_var rfl) val_c)) (fun hb => ?_) (fun hb => ?_)
   ·
     replace hm := Mi.ifT hb hm
     refine q_ret ?_
     refine w_op ?_
     refine w_op ?_
     refine w_sl ?_
     refine c_val (val_var rfl) ?_
     refine w_pon ?_
     refine w_pos ?_
     refine c_val (val_var rfl) ?_
     refine ⟨_, rfl, ?_⟩
     obtain ⟨x27, hx27, hm⟩ := Mi.bnd hm
     refine w_cutS hx27 ?_
     refine c_val (val_var rfl) ?_
     obtain ⟨x28, hx28, hm⟩ := Mi.bnd hm
     refine w_catS hx28 ?_
     refine w_sl ?_
     refine c_val (val_var rfl) ?_
     refine w_pos ?_
     refine c_val (val_add (val_var rfl) val_c) ?_
     refine ⟨_, rfl, ?_⟩
     refine w_pon ?_
     obtain ⟨x29, hx29, hm⟩ := Mi.bnd hm
     refine w_cutS hx29 ?_
     obtain ⟨x30, hx30, hm⟩ := Mi.bnd hm
     refine w_catS hx30 ?_
     obtain rfl := Option.some.inj hm
     exact hQ _ c0 r0
   replace hm := Mi.ifF hb hm
   refine w_fall ?_
   refine q_if (ans_t (val_eqI (val_var rfl) val_c)) (fun hb => ?_) (fun hb => ?_)
   ·
     replace hm := Mi.ifT hb hm
     refine q_ret ?_
     refine w_op ?_
     refine w_op ?_
     refine w_sl ?_
     refine c_val (val_var rfl) ?_
     refine w_pon ?_
     refine w_pos ?_
     refine c_val (val_var rfl) ?_
     refine ⟨_, rfl, ?_⟩
     obtain ⟨x31, hx31, hm⟩ := Mi.bnd hm
     refine w_cutS hx31 ?_
     refine c_val (val_var rfl) ?_
     obtain ⟨x32, hx32, hm⟩ := Mi.bnd hm
     refine w_catS hx32 ?_
     refine w_sl ?_
     refine c_val (val_var rfl) ?_
     refine w_pos ?_
     refine c_val (val_var rfl) ?_
     refine ⟨_, rfl, ?_⟩
     refine w_pon ?_
     obtain ⟨x33, hx33, hm⟩ := Mi.bnd hm
     refine w_cutS hx33 ?_
     obtain ⟨x34, hx34, hm⟩ := Mi.bnd hm
     refine w_catS hx34 ?_
     obtain rfl := Option.some.inj hm
     exact hQ _ c0 r0
   replace hm := Mi.ifF hb hm
   refine w_fall ?_
   refine q_ret ?_
   refine w_op ?_
   refine w_sl ?_
   refine c_val (val_var rfl) ?_
   refine w_pon ?_
   refine w_pos ?_
   refine c_val (val_var rfl) ?_
   refine ⟨_, rfl, ?_⟩
   obtain ⟨x35, hx35, hm⟩ := Mi.bnd hm
   refine w_cutS hx35 ?_
   refine w_sl ?_
   refine c_val (val_var rfl) ?_
   refine w_pos ?_
   refine c_val (val_add (val_var rfl) val_c) ?_
   refine ⟨_, rfl, ?_⟩
   refine w_pon ?_
   obtain ⟨x36, hx36, hm⟩ := Mi.bnd hm
   refine w_cutS hx36 ?_
   obtain ⟨x37, hx37, hm⟩ := Mi.bnd hm
   refine w_catS hx37 ?_
   obtain rfl := Option.some.inj hm
   exact hQ _ c0 r0
theorem sc_l_strange : FnScope ["_law_hand_here", "_law_lots", "_law_words"] ["_law_hand_here"] (defScope s_l_strange) := ⟨rfl, rfl, rfl, by decide +kernel, rfl, by decide +kernel, by decide +kernel⟩
def sp_l_strange (K : PySem.W.Frag) : Sp := fun vs H Q _ => ∃ (v0 : V) (F0 : List Addr) (d0 : (List Int)) (r : ((List Nat) × (List Int))), vs = [v0] ∧ (yLst yInt).rep K H F0 v0 d0 ∧ Mi.m_l_strange d0 = some r ∧ ∀ H', Chg (F0) H H' → (yLst yInt).rep K H' F0 v0 r.2 → Q (.str (toS r.1)) H'
theorem ok_l_strange (B : Bi mg) (CN : Cs w K mg) (D : Dfn K mg "_law_strange" s_l_strange) (C_l_pick : Cal P w K mg "_law_pick" ["_law_hand_here", "_law_size"] 1 (sp_l_pick K)) : Cal P w K mg "_law_strange" ["_law_hand_here"] 2 (sp_l_strange K) := by
 obtain ⟨f, fd, F, g⟩ := D.ex
 refine ⟨f, fd, g, F.kp, bindsF F (fun _ _ _ _ _ _ us hl => match us, hl with | [_], _ => rfl), fun base => F.ok sc_l_strange (fun vs H Q E h => ?_) (fun cdv A outer s H0 vs Q E hr h => ?_)⟩
 · obtain ⟨v0, F0, d0, r, rfl, r0, hm, hQ⟩ := h; rfl
 ·
   obtain ⟨v0, F0, d0, r, rfl, r0, hm, hQ⟩ := h
   refine ⟨_, pss_cons (ps_set (i := 1) sc_l_strange.nd rfl (.inl rfl) pe_str)
     (pss_cons (ps_set (i := 1) sc_l_strange.nd rfl (.inl rfl) (pe_op op_catS (pv 1) pe_str))
     (pss_cons (ps_set (i := 2) sc_l_strange.nd rfl (.inl rfl) (pe_op op_cat (pe_spl (pv 1) pe_str) (pe_lst (pa_cons pe_str (pa_cons (pe_op op_repS pe_str pe_int) pa_nil)))))
     (pss_cons (ps_ret (pe_ix (ix_l (K := K)) (pv 2) (pe_cc C_l_pick hr (pa_cons (pv 0) (pa_cons (pe_callB (cl_len (K := K)) (by rfl) B.len PySem.boot_len (pa_cons (pv 2) pa_nil)) pa_nil))) (fun _ _ => rfl))) pss_nil))), ?_⟩
   have c0 : Chg (F0) H0 H0 := Chg.refl H0
   unfold Mi.m_l_strange at hm
   obtain ⟨lots2, hlots2, hm⟩ := Mi.letE hm
   refine q_setE (val_cS (a := ([48, 32, 49, 32, 51, 32, 52, 32, 53, 32, 54, 32, 55, 32, 57, 32, 49, 49, 32, 49, 50, 32, 57, 57, 32, 49, 48, 48, 32, 57, 57, 57, 32, 49, 48, 48, 48, 32, 48, 48, 32, 48, 49, 32, 45, 32, 45, 49, 32, 43, 49, 32, 48, 44, 49, 32, 49, 44, 48, 32, 49, 44, 49, 32, 50, 44, 49, 48, 32, 49, 48, 44, 50, 32, 48, 44, 49, 44, 32, 44, 48, 32, 48, 44, 49, 50, 32, 49, 46, 53, 32, 121, 32, 110, 32, 121, 110, 32, 121, 121, 121, 121] : List Nat)) (by decide +kernel)) (congrArg (fun z => V.str (toS z)) hlots2) (σ' := [some v0, some (.str (toS lots2)), none]) rfl ?_
   obtain ⟨x3, hx3, hm⟩ := Mi.bnd hm
   obtain ⟨lots4, hlots4, hm⟩ := Mi.letE hm
   refine q_setE (val_catS hx3 (val_var rfl) (val_cS (a := ([32, 110, 110, 110, 110, 110, 32, 121, 120, 32, 89, 32, 110, 121, 44, 32, 114, 101, 112, 111, 114, 116, 32, 114, 101, 99, 101, 105, 118, 101, 32, 119, 105, 116, 104, 100, 114, 97, 119, 32, 97, 116, 32, 105, 110, 32, 111, 117, 116, 32, 119, 101, 105, 103, 104, 116, 32, 101, 118, 101, 110, 116, 32, 82, 101, 112, 111, 114, 116, 32, 108, 101, 116, 116, 101, 114] : List Nat)) (by decide +kernel))) (congrArg (fun z => V.str (toS z)) hlots4) (σ' := [some v0, some (.str (toS lots4)), none]) rfl ?_
   refine q_asg ?_
   refine w_op ?_
   refine w_m1 ?_
   refine c_val (val_var rfl) ?_
   refine ⟨⟨_, rfl⟩, ?_⟩
   refine c_val (val_cS (a := ([32] : List Nat)) (by decide +kernel)) ?_
   obtain ⟨x5, hx5, hm⟩ := Mi.bnd hm
   refine w_spl (K := K) hx5 fun p6 H10 np9 c7 r8 => ?_
   have d11 : Dj F0 [p6] := Ty.nin r0 np9
   have n12 : ∀ a ∈ [p6], H0 a = none := one_fresh (c0.dom p6 np9)
   have r0 := Ty.ex r0 c7
   have c0 := c0.trans c7.none
   refine w_lst ?_
   obtain ⟨x13, hx13, hm⟩ := Mi.bnd hm
   refine w_args (va_cons (val_cS (a := ([] : List Nat)) (by decide +kernel)) (va_cons (val_repS hx13 (val_cS (a := ([57] : List Nat)) (by decide +kernel)) val_c) va_nil)) ?_
   refine e_lst (K := K) (τ := yStr) (by exact Nat.le_of_ble_eq_true rfl) (.cons yStr_i (.cons yStr_i .nil)) fun p14 H18 np17 c15 r16 => ?_
   have d19 : Dj F0 [p14] := Ty.nin r0 np17
   have d20 : Dj [p6] [p14] := Ty.nin r8 np17
   have n21 : ∀ a ∈ [p14], H0 a = none := one_fresh (c0.dom p14 np17)
   have r0 := Ty.ex r0 c15
   have r8 := Ty.ex r8 c15
   have c0 := c0.trans c15.none
   obtain ⟨x22, hx22, hm⟩ := Mi.bnd hm
   refine w_cat r8 r16 hx22 fun p23 H27 np26 c24 r25 => ?_
   have d28 : Dj F0 [p23] := Ty.nin r0 np26
   have d29 : Dj [p6] [p23] := Ty.nin r8 np26
   have d30 : Dj [p14] [p23] := Ty.nin r16 np26
   have n31 : ∀ a ∈ [p23], H0 a = none := one_fresh (c0.dom p23 np26)
   have r0 := Ty.ex r0 c24
   have r8 := Ty.ex r8 c24
   have r16 := Ty.ex r16 c24
   have c0 := c0.trans c24.none
   refine g_name (σ' := [some v0, some (.str (toS lots4)), some (.ref p23)]) rfl ?_
   refine q_ret ?_
   refine w_op ?_
   refine c_val (val_var rfl) ?_
   refine w_call ?_
   refine w_args (va_cons (val_var rfl) (va_cons (val_lenL r25 (val_var rfl)) va_nil)) ?_
   obtain ⟨q32, hq32, hm⟩ := Mi.bnd hm
   refine ⟨v0, F0, d0, (x22.length : Int), q32, rfl, r0, hq32, fun H34 c33 r0 => ?_⟩
   have r25 := Ty.chg r25 c33 d28.symm
   have c0 := c0.join c33 (fun a h => .inl (h))
   obtain ⟨x35, hx35, hm⟩ := Mi.bnd hm
   refine w_ixL r25 hx35 fun u36 r37 => ?_
   obtain ⟨_, rfl⟩ := r37
   obtain rfl := Option.some.inj hm
   exact hQ _ c0 r0
theorem sc_l_changed : FnScope ["_law_hand_here", "_law_words", "_law_others", "_law_kind", "_law_p", "_law_q", "_law_turned"] ["_law_hand_here", "_law_words", "_law_others"] (defScope s_l_changed) := ⟨rfl, rfl, rfl, by decide +kernel, rfl, by decide +kernel, by decide +kernel⟩
def sp_l_changed (K : PySem.W.Frag) : Sp := fun vs H Q _ => ∃ (v0 : V) (F0 : List Addr) (d0 : (List Int)) (v1 : V) (F1 : List Addr) (d1 : (List (List Nat))) (v2 : V) (F2 : List Addr) (d2 : (List (List Nat))) (r : ((List (List Nat)) × (List Int))), vs = [v0, v1, v2] ∧ (yLst yInt).rep K H F0 v0 d0 ∧ (yLst yStr).rep K H F1 v1 d1 ∧ (yLst yStr).rep K H F2 v2 d2 ∧ Dj F0 F1 ∧ Dj F0 F2 ∧ Mi.m_l_changed d0 d1 d2 = some r ∧ ∀ v H' F, Chg (F0) H H' → (yLst yStr).rep K H' F v r.1 → (∀ a ∈ F, H a = none ∨ a ∈ F1) → (yLst yInt).rep K H' F0 v0 r.2 → Q v H'
theorem ok_l_changed (B : Bi mg) (CN : Cs w K mg) (D : Dfn K mg "_law_changed" s_l_changed) (C_l_pick : Cal P w K mg "_law_pick" ["_law_hand_here", "_law_size"] 1 (sp_l_pick K)) (C_l_bent : Cal P w K mg "_law_bent" ["_law_hand_here", "_law_word"] 3 (sp_l_bent K)) (C_l_strange : Cal P w K mg "_law_strange" ["_law_hand_here"] 2 (sp_l_strange K)) : Cal P w K mg "_law_changed" ["_law_hand_here", "_law_words", "_law_others"] 4 (sp_l_changed K) := by
 obtain ⟨f, fd, F, g⟩ := D.ex
 refine ⟨f, fd, g, F.kp, bindsF F (fun _ _ _ _ _ _ us hl => match us, hl with | [_, _, _], _ => rfl), fun base => F.ok sc_l_changed (fun vs H Q E h => ?_) (fun cdv A outer s H0 vs Q E hr h => ?_)⟩
 · obtain ⟨v0, F0, d0, v1, F1, d1, v2, F2, d2, r, rfl, r0, r1, r2, dd0_1, dd0_2, hm, hQ⟩ := h; rfl
 ·
   obtain ⟨v0, F0, d0, v1, F1, d1, v2, F2, d2, r, rfl, r0, r1, r2, dd0_1, dd0_2, hm, hQ⟩ := h
   refine ⟨_, pss_cons (ps_set (i := 3) sc_l_changed.nd rfl (.inl rfl) (pe_cc C_l_pick hr (pa_cons (pv 0) (pa_cons pe_int pa_nil))))
     (pss_cons (ps_set (i := 4) sc_l_changed.nd rfl (.inl rfl) (pe_cc C_l_pick hr (pa_cons (pv 0) (pa_cons (pe_callB (cl_len (K := K)) (by rfl) B.len PySem.boot_len (pa_cons (pv 1) pa_nil)) pa_nil))))
     (pss_cons (ps_set (i := 5) sc_l_changed.nd rfl (.inl rfl) (pe_cc C_l_pick hr (pa_cons (pv 0) (pa_cons (pe_op op_add (pe_callB (cl_len (K := K)) (by rfl) B.len PySem.boot_len (pa_cons (pv 1) pa_nil)) pe_int) pa_nil))))
     (pss_cons (ps_if (pt_cmpR op_lt (pv 3) pe_int (nomark _)) (pss_cons (ps_ret (pv 1)) pss_nil) (pss_nil))
     (pss_cons (ps_if (pt_cmpR op_eq (pv 3) pe_int (nomark _)) (pss_cons (ps_ret (pe_op op_cat (pe_slice (sl_l (K := K)) (pv 1) po_none (po_some (pv 4))) (pe_slice (sl_l (K := K)) (pv 1) (po_some (pe_op op_add (pv 4) pe_int)) po_none))) pss_nil) (pss_nil))
     (pss_cons (ps_if (pt_cmpR op_eq (pv 3) pe_int (nomark _)) (pss_cons (ps_ret (pe_op op_cat (pe_slice (sl_l (K := K)) (pv 1) po_none (po_some (pe_op op_add (pv 4) pe_int))) (pe_slice (sl_l (K := K)) (pv 1) (po_some (pv 4)) po_none))) pss_nil) (pss_nil))
     (pss_cons (ps_if (pt_cmpR op_eq (pv 3) pe_int (nomark _)) (pss_cons (ps_set (i := 6) sc_l_changed.nd rfl (.inl rfl) (pe_callTy (cl_list (K := K)) (by rfl) B.list (by decide +kernel) (pa_cons (pv 1) pa_nil)))
     (pss_cons (ps_asg (pe_ix (ix_l (K := K)) (pv 1) (pe_callB (cl_min2 rfl) (by rfl) B.min (by decide +kernel) (pa_cons (pv 5) (pa_cons (pe_op op_sub (pe_callB (cl_len (K := K)) (by rfl) B.len PySem.boot_len (pa_cons (pv 1) pa_nil)) pe_int) pa_nil))) (fun _ _ => rfl)) (pg_sub (pv 6) (pv 4) set_list))
     (pss_cons (ps_asg (pe_ix (ix_l (K := K)) (pv 1) (pv 4) (fun _ _ => rfl)) (pg_sub (pv 6) (pe_callB (cl_min2 rfl) (by rfl) B.min (by decide +kernel) (pa_cons (pv 5) (pa_cons (pe_op op_sub (pe_callB (cl_len (K := K)) (by rfl) B.len PySem.boot_len (pa_cons (pv 1) pa_nil)) pe_int) pa_nil))) set_list))
     (pss_cons (ps_ret (pv 6)) pss_nil)))) (pss_nil))
     (pss_cons (ps_if (PW.pt (pw_or (pt_cmpR op_eq (pv 3) pe_int (nomark _)) (pw_or1 (pt_cmpR op_eq (pv 3) pe_int (nomark _))))) (pss_cons (ps_ret (pe_op op_cat (pe_op op_cat (pe_slice (sl_l (K := K)) (pv 1) po_none (po_some (pv 4))) (pe_lst (pa_cons (pe_cc C_l_bent hr (pa_cons (pv 0) (pa_cons (pe_ix (ix_l (K := K)) (pv 1) (pv 4) (fun _ _ => rfl)) pa_nil))) pa_nil))) (pe_slice (sl_l (K := K)) (pv 1) (po_some (pe_op op_add (pv 4) pe_int)) po_none))) pss_nil) (pss_nil))
     (pss_cons (ps_if (pt_cmpR op_eq (pv 3) pe_int (nomark _)) (pss_cons (ps_ret (pe_op op_cat (pe_op op_cat (pe_slice (sl_l (K := K)) (pv 1) po_none (po_some (pv 4))) (pe_lst (pa_cons (pe_cc C_l_strange hr (pa_cons (pv 0) pa_nil)) pa_nil))) (pe_slice (sl_l (K := K)) (pv 1) (po_some (pe_op op_add (pv 4) pe_int)) po_none))) pss_nil) (pss_nil))
     (pss_cons (ps_if (pt_cmpR op_eq (pv 3) pe_int (nomark _)) (pss_cons (ps_ret (pe_op op_cat (pe_op op_cat (pe_slice (sl_l (K := K)) (pv 1) po_none (po_some (pv 5))) (pe_lst (pa_cons (pe_cc C_l_strange hr (pa_cons (pv 0) pa_nil)) pa_nil))) (pe_slice (sl_l (K := K)) (pv 1) (po_some (pv 5)) po_none))) pss_nil) (pss_nil))
     (pss_cons (ps_if (pt_cmpR op_eq (pv 3) pe_int (nomark _)) (pss_cons (ps_ret (pe_slice (sl_l (K := K)) (pv 1) po_none (po_some (pv 5)))) pss_nil) (pss_nil))
     (pss_cons (ps_if (pt_cmpR op_eq (pv 3) pe_int (nomark _)) (pss_cons (ps_ret (pe_op op_cat (pe_slice (sl_l (K := K)) (pv 1) po_none (po_some (pv 5))) (pe_slice (sl_l (K := K)) (pv 2) (po_some (pe_callB (cl_min2 rfl) (by rfl) B.min (by decide +kernel) (pa_cons (pv 4) (pa_cons (pe_callB (cl_len (K := K)) (by rfl) B.len PySem.boot_len (pa_cons (pv 2) pa_nil)) pa_nil)))) po_none))) pss_nil) (pss_nil))
     (pss_cons (ps_ret (pe_op op_cat (pe_op op_cat (pe_slice (sl_l (K := K)) (pv 1) po_none (po_some (pv 5))) (pe_lst (pa_cons pe_str pa_nil))) (pe_slice (sl_l (K := K)) (pv 1) (po_some (pv 5)) po_none))) pss_nil)))))))))))), ?_⟩
   have c0 : Chg (F0) H0 H0 := Chg.refl H0
   unfold Mi.m_l_changed at hm
   refine q_asg ?_
   refine w_call ?_
   refine w_args (va_cons (val_var rfl) (va_cons val_c va_nil)) ?_
   obtain ⟨q4, hq4, hm⟩ := Mi.bnd hm
   refine ⟨v0, F0, d0, (14 : Int), q4, rfl, r0, hq4, fun H6 c5 r0 => ?_⟩
   have r1 := Ty.chg r1 c5 dd0_1.symm
   have r2 := Ty.chg r2 c5 dd0_2.symm
   have c0 := c0.join c5 (fun a h => .inl (h))
   refine g_name (σ' := [some v0, some v1, some v2, some (.int q4.1), none, none, none]) rfl ?_
   refine q_asg ?_
   refine w_call ?_
   refine w_args (va_cons (val_var rfl) (va_cons (val_lenL r1 (val_var rfl)) va_nil)) ?_
   obtain ⟨q7, hq7, hm⟩ := Mi.bnd hm
   refine ⟨v0, F0, q4.2, (d1.length : Int), q7, rfl, r0, hq7, fun H9 c8 r0 => ?_⟩
   have r1 := Ty.chg r1 c8 dd0_1.symm
   have r2 := Ty.chg r2 c8 dd0_2.symm
   have c0 := c0.join c8 (fun a h => .inl (h))
   refine g_name (σ' := [some v0, some v1, some v2, some (.int q4.1), some (.int q7.1), none, none]) rfl ?_
   refine q_asg ?_
   refine w_call ?_
   refine w_args (va_cons (val_var rfl) (va_cons (val_add (val_lenL r1 (val_var rfl)) val_c) va_nil)) ?_
   obtain ⟨q10, hq10, hm⟩ := Mi.bnd hm
   refine ⟨v0, F0, q7.2, ((d1.length : Int) + (1 : Int)), q10, rfl, r0, hq10, fun H12 c11 r0 => ?_⟩
   have r1 := Ty.chg r1 c11 dd0_1.symm
   have r2 := Ty.chg r2 c11 dd0_2.symm
   have c0 := c0.join c11 (fun a h => .inl (h))
   refine g_name (σ' := [some v0, some v1, some v2, some (.int q4.1), some (.int q7.1), some (.int q10.1), none]) rfl ?_
   refine q_if (ans_t (val_lt (val_var rfl) val_c)) (fun hb => ?_) (fun hb => ?_)
   ·
     replace hm := Mi.ifT hb hm
     refine q_ret ?_
     refine c_val (val_var rfl) ?_
     obtain rfl := Option.some.inj hm
     exact hQ _ _ _ c0 r1 (fun a h => .inr h) r0
   replace hm := Mi.ifF hb hm
   refine w_fall ?_
   refine q_if (ans_t (val_eqI (val_var rfl) val_c)) (fun hb => ?_) (fun hb => ?_)
   ·
     replace hm := Mi.ifT hb hm
     refine q_ret ?_
     refine w_op ?_
     refine w_sl ?_
     refine c_val (val_var rfl) ?_
     refine w_pon ?_
     refine w_pos ?_
     refine c_val (val_var rfl) ?_
     refine ⟨_, rfl, ?_⟩
     refine w_cutL r1 fun p13 H17 np16 c14 r15 => ?_
     have d18 : Dj F0 [p13] := Ty.nin r0 np16
     have d19 : Dj F1 [p13] := Ty.nin r1 np16
     have d20 : Dj F2 [p13] := Ty.nin r2 np16
     have n21 : ∀ a ∈ [p13], H0 a = none := one_fresh (c0.dom p13 np16)
     have r0 := Ty.ex r0 c14
     have r1 := Ty.ex r1 c14
     have r2 := Ty.ex r2 c14
     have c0 := c0.trans c14.none
     refine w_sl ?_
     refine c_val (val_var rfl) ?_
     refine w_pos ?_
     refine c_val (val_add (val_var rfl) val_c) ?_
     refine ⟨_, rfl, ?_⟩
     refine w_pon ?_
     refine w_cutL r1 fun p22 H26 np25 c23 r24 => ?_
     have d27 : Dj F0 [p22] := Ty.nin r0 np25
     have d28 : Dj F1 [p22] := Ty.nin r1 np25
     have d29 : Dj F2 [p22] := Ty.nin r2 np25
     have d30 : Dj [p13] [p22] := Ty.nin r15 np25
     have n31 : ∀ a ∈ [p22], H0 a = none := one_fresh (c0.dom p22 np25)
     have r0 := Ty.ex r0 c23
     have r1 := Ty.ex r1 c23
     have r2 := Ty.ex r2 c23
     have r15 := Ty.ex r15 c23
     have c0 := c0.trans c23.none
     obtain ⟨x32, hx32, hm⟩ := Mi.bnd hm
     refine w_cat r15 r24 hx32 fun p33 H37 np36 c34 r35 => ?_
     have d38 : Dj F0 [p33] := Ty.nin r0 np36
     have d39 : Dj F1 [p33] := Ty.nin r1 np36
     have d40 : Dj F2 [p33] := Ty.nin r2 np36
     have d41 : Dj [p13] [p33] := Ty.nin r15 np36
     have d42 : Dj [p22] [p33] := Ty.nin r24 np36
     have n43 : ∀ a ∈ [p33], H0 a = none := one_fresh (c0.dom p33 np36)
     have r0 := Ty.ex r0 c34
     have r1 := Ty.ex r1 c34
     have r2 := Ty.ex r2 c34
     have r15 := Ty.ex r15 c34
     have r24 := Ty.ex r24 c34
     have c0 := c0.trans c34.none
     obtain rfl := Option.some.inj hm
     exact hQ _ _ _ c0 r35 (fun a h => .inl (n43 a h)) r0
   replace hm := Mi.ifF hb hm
   refine w_fall ?_
   refine q_if (ans_t (val_eqI (val_var rfl) val_c)) (fun hb => ?_) (fun hb => ?_)
   ·
     replace hm := Mi.ifT hb hm
     refine q_ret ?_
     refine w_op ?_
     refine w_sl ?_
     refine c_val (val_var rfl) ?_
     refine w_pon ?_
     refine w_pos ?_
     refine c_val (val_add (val_var rfl) val_c) ?_
     refine ⟨_, rfl, ?_⟩
     refine w_cutL r1 fun p44 H48 np47 c45 r46 => ?_
     have d49 : Dj F0 [p44] := Ty.nin r0 np47
     have d50 : Dj F1 [p44] := Ty.nin r1 np47
     have d51 : Dj F2 [p44] := Ty.nin r2 np47
     have n52 : ∀ a ∈ [p44], H0 a = none := one_fresh (c0.dom p44 np47)
     have r0 := Ty.ex r0 c45
     have r1 := Ty.ex r1 c45
     have r2 := Ty.ex r2 c45
     have c0 := c0.trans c45.none
     refine w_sl ?_
     refine c_val (val_var rfl) ?_
     refine w_pos ?_
     refine c_val (val_var rfl) ?_
     refine ⟨_, rfl, ?_⟩
     refine w_pon ?_
     refine w_cutL r1 fun p53 H57 np56 c54 r55 => ?_
     have d58 : Dj F0 [p53] := Ty.nin r0 np56
     have d59 : Dj F1 [p53] := Ty.nin r1 np56
     have d60 : Dj F2 [p53] := Ty.nin r2 np56
     have d61 : Dj [p44] [p53] := Ty.nin r46 np56
     have n62 : ∀ a ∈ [p53], H0 a = none := one_fresh (c0.dom p53 np56)
     have r0 := Ty.ex r0 c54
     have r1 := Ty.ex r1 c54
     have r2 := Ty.ex r2 c54
     have r46 := Ty.ex r46 c54
     have c0 := c0.trans c54.none
     obtain ⟨x63, hx63, hm⟩ := Mi.bnd hm
     refine w_cat r46 r55 hx63 fun p64 H68 np67 c65 r66 => ?_
     have d69 : Dj F0 [p64] := Ty.nin r0 np67
     have d70 : Dj F1 [p64] := Ty.nin r1 np67
     have d71 : Dj F2 [p64] := Ty.nin r2 np67
     have d72 : Dj [p44] [p64] := Ty.nin r46 np67
     have d73 : Dj [p53] [p64] := Ty.nin r55 np67
     have n74 : ∀ a ∈ [p64], H0 a = none := one_fresh (c0.dom p64 np67)
     have r0 := Ty.ex r0 c65
     have r1 := Ty.ex r1 c65
     have r2 := Ty.ex r2 c65
     have r46 := Ty.ex r46 c65
     have r55 := Ty.ex r55 c65
     have c0 := c0.trans c65.none
     obtain rfl := Option.some.inj hm
     exact hQ _ _ _ c0 r66 (fun a h => .inl (n74 a h)) r0
   replace hm := Mi.ifF hb hm
   refine w_fall ?_
   refine q_if (ans_t (val_eqI (val_var rfl) val_c)) (fun hb => ?_) (fun hb => ?_)
   ·
     replace hm := Mi.ifT hb hm
     refine q_asg ?_
     refine w_cb ?_
     refine w_args (va_cons (val_var rfl) va_nil) ?_
     refine w_listL r1 fun p75 H79 np78 c76 r77 => ?_
     have d80 : Dj F0 [p75] := Ty.nin r0 np78
     have d81 : Dj F1 [p75] := Ty.nin r1 np78
     have d82 : Dj F2 [p75] := Ty.nin r2 np78
     have n83 : ∀ a ∈ [p75], H0 a = none := one_fresh (c0.dom p75 np78)
     have r0 := Ty.ex r0 c76
     have r1 := Ty.ex r1 c76
     have r2 := Ty.ex r2 c76
     have c0 := c0.trans c76.none
     refine g_name (σ' := [some v0, some v1, some v2, some (.int q4.1), some (.int q7.1), some (.int q10.1), some (.ref p75)]) rfl ?_
     refine q_asg ?_
     obtain ⟨x84, hx84, hm⟩ := Mi.bnd hm
     obtain ⟨u85, r86, ku87⟩ := itm_L r1 hx84
     obtain ⟨_, rfl⟩ := r86
     refine c_val (ku87 (val_var rfl) (val_min2 (val_var rfl) (val_sub (val_lenL r1 (val_var rfl)) val_c))) ?_
     refine w_gsub ?_
     refine c_val (val_var rfl) ?_
     refine c_val (val_var rfl) ?_
     obtain ⟨x88, hx88, hm⟩ := Mi.bnd hm
     refine m_set r77 yStr_i hx88 fun H90 c89 r77 => ?_
     have r0 := Ty.chg r0 c89 d80
     have r1 := Ty.chg r1 c89 d81
     have r2 := Ty.chg r2 c89 d82
     have c0 := c0.join c89 (fun a h => .inr (n83 a h))
     refine q_asg ?_
     obtain ⟨x91, hx91, hm⟩ := Mi.bnd hm
     obtain ⟨u92, r93, ku94⟩ := itm_L r1 hx91
     obtain ⟨_, rfl⟩ := r93
     refine c_val (ku94 (val_var rfl) (val_var rfl)) ?_
     refine w_gsub ?_
     refine c_val (val_var rfl) ?_
     refine c_val (val_min2 (val_var rfl) (val_sub (val_lenL r1 (val_var rfl)) val_c)) ?_
     obtain ⟨x95, hx95, hm⟩ := Mi.bnd hm
     refine m_set r77 yStr_i hx95 fun H97 c96 r77 => ?_
     have r0 := Ty.chg r0 c96 d80
     have r1 := Ty.chg r1 c96 d81
     have r2 := Ty.chg r2 c96 d82
     have c0 := c0.join c96 (fun a h => .inr (n83 a h))
     refine q_ret ?_
     refine c_val (val_var rfl) ?_
     obtain rfl := Option.some.inj hm
     exact hQ _ _ _ c0 r77 (fun a h => .inl (n83 a h)) r0
   replace hm := Mi.ifF hb hm
   refine w_fall ?_
   refine q_if (ans_orB (ans_t (val_eqI (val_var rfl) val_c)) (fun _ => (ans_t (val_eqI (val_var rfl) val_c)))) (fun hb => ?_) (fun hb => ?_)
   ·
     replace hm := Mi.ifT hb hm
     refine q_ret ?_
     refine w_op ?_
     refine w_op ?_
     refine w_sl ?_
     refine c_val (val_var rfl) ?_
     refine w_pon ?_
     refine w_pos ?_
     refine c_val (val_var rfl) ?_
     refine ⟨_, rfl, ?_⟩
     refine w_cutL r1 fun p99 H103 np102 c100 r101 => ?_
     have d104 : Dj F0 [p99] := Ty.nin r0 np102
     have d105 : Dj F1 [p99] := Ty.nin r1 np102
     have d106 : Dj F2 [p99] := Ty.nin r2 np102
     have n107 : ∀ a ∈ [p99], H0 a = none := one_fresh (c0.dom p99 np102)
     have r0 := Ty.ex r0 c100
     have r1 := Ty.ex r1 c100
     have r2 := Ty.ex r2 c100
     have c0 := c0.trans c100.none
     refine w_lst ?_
     refine w_cons ?_
     refine w_call ?_
     obtain ⟨x108, hx108, hm⟩ := Mi.bnd hm
     obtain ⟨u109, r110, ku111⟩ := itm_L r1 hx108
     obtain ⟨_, rfl⟩ := r110
     refine w_args (va_cons (val_var rfl) (va_cons (ku111 (val_var rfl) (val_var rfl)) va_nil)) ?_
     obtain ⟨q112, hq112, hm⟩ := Mi.bnd hm
     refine ⟨v0, F0, q10.2, x108, q112, rfl, r0, hq112, fun H114 c113 r0 => ?_⟩
     have r1 := Ty.chg r1 c113 dd0_1.symm
     have r2 := Ty.chg r2 c113 dd0_2.symm
     have r101 := Ty.chg r101 c113 d104.symm
     have c0 := c0.join c113 (fun a h => .inl (h))
     refine w_nil ?_
     refine e_lst (K := K) (τ := yStr) (by exact Nat.le_of_ble_eq_true rfl) (.cons yStr_i .nil) fun p115 H119 np118 c116 r117 => ?_
     have d120 : Dj F0 [p115] := Ty.nin r0 np118
     have d121 : Dj F1 [p115] := Ty.nin r1 np118
     have d122 : Dj F2 [p115] := Ty.nin r2 np118
     have d123 : Dj [p99] [p115] := Ty.nin r101 np118
     have n124 : ∀ a ∈ [p115], H0 a = none := one_fresh (c0.dom p115 np118)
     have r0 := Ty.ex r0 c116
     have r1 := Ty.ex r1 c116
     have r2 := Ty.ex r2 c116
     have r101 := Ty.ex r101 c116
     have c0 := c0.trans c116.none
     obtain ⟨x125, hx125, hm⟩ := Mi.bnd hm
     refine w_cat r101 r117 hx125 fun p126 H130 np129 c127 r128 => ?_
     have d131 : Dj F0 [p126] := Ty.nin r0 np129
     have d132 : Dj F1 [p126] := Ty.nin r1 np129
     have d133 : Dj F2 [p126] := Ty.nin r2 np129
     have d134 : Dj [p99] [p126] := Ty.nin r101 np129
     have d135 : Dj [p115] [p126] := Ty.nin r117 np129
     have n136 : ∀ a ∈ [p126], H0 a = none := one_fresh (c0.dom p126 np129)
     have r0 := Ty.ex r0 c127
     have r1 := Ty.ex r1 c127
     have r2 := Ty.ex r2 c127
     have r101 := Ty.ex r101 c127
     have r117 := Ty.ex r117 c127
     have c0 := c0.trans c127.none
     refine w_sl ?_
     refine c_val (val_var rfl) ?_
     refine w_pos ?_
     refine c_val (val_add (val_var rfl) val_c) ?_
     refine ⟨_, rfl, ?_⟩
     refine w_pon ?_
     refine w_cutL r1 fun p137 H141 np140 c138 r139 => ?_
     have d142 : Dj F0 [p137] := Ty.nin r0 np140
     have d143 : Dj F1 [p137] := Ty.nin r1 np140
     have d144 : Dj F2 [p137] := Ty.nin r2 np140
     have d145 : Dj [p126] [p137] := Ty.nin r128 np140
     have n146 : ∀ a ∈ [p137], H0 a = none := one_fresh (c0.dom p137 np140)
     have r0 := Ty.ex r0 c138
     have r1 := Ty.ex r1 c138
     have r2 := Ty.ex r2 c138
     have r128 := Ty.ex r128 c138
     have c0 := c0.trans c138.none
     obtain ⟨x147, hx147, hm⟩ := Mi.bnd hm
     refine w_cat r128 r139 hx147 fun p148 H152 np151 c149 r150 => ?_
     have d153 : Dj F0 [p148] := Ty.nin r0 np151
     have d154 : Dj F1 [p148] := Ty.nin r1 np151
     have d155 : Dj F2 [p148] := Ty.nin r2 np151
     have d156 : Dj [p126] [p148] := Ty.nin r128 np151
     have d157 : Dj [p137] [p148] := Ty.nin r139 np151
     have n158 : ∀ a ∈ [p148], H0 a = none := one_fresh (c0.dom p148 np151)
     have r0 := Ty.ex r0 c149
     have r1 := Ty.ex r1 c149
     have r2 := Ty.ex r2 c149
     have r128 := Ty.ex r128 c149
     have r139 := Ty.ex r139 c149
     have c0 := c0.trans c149.none
     obtain rfl := Option.some.inj hm
     exact hQ _ _ _ c0 r150 (fun a h => .inl (n158 a h)) r0
   replace hm := Mi.ifF hb hm
   refine w_fall ?_
   refine q_if (ans_t (val_eqI (val_var rfl) val_c)) (fun hb => ?_) (fun hb => ?_)
   ·
     replace hm := Mi.ifT hb hm
     refine q_ret ?_
     refine w_op ?_
     refine w_op ?_
     refine w_sl ?_
     refine c_val (val_var rfl) ?_
     refine w_pon ?_
     refine w_pos ?_
     refine c_val (val_var rfl) ?_
     refine ⟨_, rfl, ?_⟩
     refine w_cutL r1 fun p159 H163 np162 c160 r161 => ?_
     have d164 : Dj F0 [p159] := Ty.nin r0 np162
     have d165 : Dj F1 [p159] := Ty.nin r1 np162
     have d166 : Dj F2 [p159] := Ty.nin r2 np162
     have n167 : ∀ a ∈ [p159], H0 a = none := one_fresh (c0.dom p159 np162)
     have r0 := Ty.ex r0 c160
     have r1 := Ty.ex r1 c160
     have r2 := Ty.ex r2 c160
     have c0 := c0.trans c160.none
     refine w_lst ?_
     refine w_cons ?_
     refine w_call ?_
     refine w_args (va_cons (val_var rfl) va_nil) ?_
     obtain ⟨q168, hq168, hm⟩ := Mi.bnd hm
     refine ⟨v0, F0, q10.2, q168, rfl, r0, hq168, fun H170 c169 r0 => ?_⟩
     have r1 := Ty.chg r1 c169 dd0_1.symm
     have r2 := Ty.chg r2 c169 dd0_2.symm
     have r161 := Ty.chg r161 c169 d164.symm
     have c0 := c0.join c169 (fun a h => .inl (h))
     refine w_nil ?_
     refine e_lst (K := K) (τ := yStr) (by exact Nat.le_of_ble_eq_true rfl) (.cons yStr_i .nil) fun p171 H175 np174 c172 r173 => ?_
     have d176 : Dj F0 [p171] := Ty.nin r0 np174
     have d177 : Dj F1 [p171] := Ty.nin r1 np174
     have d178 : Dj F2 [p171] := Ty.nin r2 np174
     have d179 : Dj [p159] [p171] := Ty.nin r161 np174
     have n180 : ∀ a ∈ [p171], H0 a = none := one_fresh (c0.dom p171 np174)
     have r0 := Ty.ex r0 c172
     have r1 := Ty.ex r1 c172
     have r2 := Ty.ex r2 c172
     have r161 := Ty.ex r161 c172
     have c0 := c0.trans c172.none
     obtain ⟨x181, hx181, hm⟩ := Mi.bnd hm
     refine w_cat r161 r173 hx181 fun p182 H186 np185 c183 r184 => ?_
     have d187 : Dj F0 [p182] := Ty.nin r0 np185
     have d188 : Dj F1 [p182] := Ty.nin r1 np185
     have d189 : Dj F2 [p182] := Ty.nin r2 np185
     have d190 : Dj [p159] [p182] := Ty.nin r161 np185
     have d191 : Dj [p171] [p182] := Ty.nin r173 np185
     have n192 : ∀ a ∈ [p182], H0 a = none := one_fresh (c0.dom p182 np185)
     have r0 := Ty.ex r0 c183
     have r1 := Ty.ex r1 c183
     have r2 := Ty.ex r2 c183
     have r161 := Ty.ex r161 c183
     have r173 := Ty.ex r173 c183
     have c0 := c0.trans c183.none
     refine w_sl ?_
     refine c_val (val_var rfl) ?_
     refine w_pos ?_
     refine c_val (val_add (val_var rfl) val_c) ?_
     refine ⟨_, rfl, ?_⟩
     refine w_pon ?_
     refine w_cutL r1 fun p193 H197 np196 c194 r195 => ?_
     have d198 : Dj F0 [p193] := Ty.nin r0 np196
     have d199 : Dj F1 [p193] := Ty.nin r1 np196
     have d200 : Dj F2 [p193] := Ty.nin r2 np196
     have d201 : Dj [p182] [p193] := Ty.nin r184 np196
     have n202 : ∀ a ∈ [p193], H0 a = none := one_fresh (c0.dom p193 np196)
     have r0 := Ty.ex r0 c194
     have r1 := Ty.ex r1 c194
     have r2 := Ty.ex r2 c194
     have r184 := Ty.ex r184 c194
     have c0 := c0.trans c194.none
     obtain ⟨x203, hx203, hm⟩ := Mi.bnd hm
     refine w_cat r184 r195 hx203 fun p204 H208 np207 c205 r206 => ?_
     have d209 : Dj F0 [p204] := Ty.nin r0 np207
     have d210 : Dj F1 [p204] := Ty.nin r1 np207
     have d211 : Dj F2 [p204] := Ty.nin r2 np207
     have d212 : Dj [p182] [p204] := Ty.nin r184 np207
     have d213 : Dj [p193] [p204] := Ty.nin r195 np207
     have n214 : ∀ a ∈ [p204], H0 a = none := one_fresh (c0.dom p204 np207)
     have r0 := Ty.ex r0 c205
     have r1 := Ty.ex r1 c205
     have r2 := Ty.ex r2 c205
     have r184 := Ty.ex r184 c205
     have r195 := Ty.ex r195 c205
     have c0 := c0.trans c205.none
     obtain rfl := Option.some.inj hm
     exact hQ _ _ _ c0 r206 (fun a h => .inl (n214 a h)) r0
   replace hm := Mi.ifF hb hm
   refine w_fall ?_
   refine q_if (ans_t (val_eqI (val_var rfl) val_c)) (fun hb => ?_) (fun hb => ?_)
   ·
     replace hm := Mi.ifT hb hm
     refine q_ret ?_
     refine w_op ?_
     refine w_op ?_
     refine w_sl ?_
     refine c_val (val_var rfl) ?_
     refine w_pon ?_
     refine w_pos ?_
     refine c_val (val_var rfl) ?_
     refine ⟨_, rfl, ?_⟩
     refine w_cutL r1 fun p215 H219 np218 c216 r217 => ?_
     have d220 : Dj F0 [p215] := Ty.nin r0 np218
     have d221 : Dj F1 [p215] := Ty.nin r1 np218
     have d222 : Dj F2 [p215] := Ty.nin r2 np218
     have n223 : ∀ a ∈ [p215], H0 a = none := one_fresh (c0.dom p215 np218)
     have r0 := Ty.ex r0 c216
     have r1 := Ty.ex r1 c216
     have r2 := Ty.ex r2 c216
     have c0 := c0.trans c216.none
     refine w_lst ?_
     refine w_cons ?_
     refine w_call ?_
     refine w_args (va_cons (val_var rfl) va_nil) ?_
     obtain ⟨q224, hq224, hm⟩ := Mi.bnd hm
     refine ⟨v0, F0, q10.2, q224, rfl, r0, hq224, fun H226 c225 r0 => ?_⟩
     have r1 := Ty.chg r1 c225 dd0_1.symm
     have r2 := Ty.chg r2 c225 dd0_2.symm
     have r217 := Ty.chg r217 c225 d220.symm
     have c0 := c0.join c225 (fun a h => .inl (h))
     refine w_nil ?_
     refine e_lst (K := K) (τ := yStr) (by exact Nat.le_of_ble_eq_true rfl) (.cons yStr_i .nil) fun p227 H231 np230 c228 r229 => ?_
     have d232 : Dj F0 [p227] := Ty.nin r0 np230
     have d233 : Dj F1 [p227] := Ty.nin r1 np230
     have d234 : Dj F2 [p227] := Ty.nin r2 np230
     have d235 : Dj [p215] [p227] := Ty.nin r217 np230
     have n236 : ∀ a ∈ [p227], H0 a = none := one_fresh (c0.dom p227 np230)
     have r0 := Ty.ex r0 c228
     have r1 := Ty.ex r1 c228
     have r2 := Ty.ex r2 c228
     have r217 := Ty.ex r217 c228
     have c0 := c0.trans c228.none
     obtain ⟨x237, hx237, hm⟩ := Mi.bnd hm
     refine w_cat r217 r229 hx237 fun p238 H242 np241 c239 r240 => ?_
     have d243 : Dj F0 [p238] := Ty.nin r0 np241
     have d244 : Dj F1 [p238] := Ty.nin r1 np241
     have d245 : Dj F2 [p238] := Ty.nin r2 np241
     have d246 : Dj [p215] [p238] := Ty.nin r217 np241
     have d247 : Dj [p227] [p238] := Ty.nin r229 np241
     have n248 : ∀ a ∈ [p238], H0 a = none := one_fresh (c0.dom p238 np241)
     have r0 := Ty.ex r0 c239
     have r1 := Ty.ex r1 c239
     have r2 := Ty.ex r2 c239
     have r217 := Ty.ex r217 c239
     have r229 := Ty.ex r229 c239
     have c0 := c0.trans c239.none
     refine w_sl ?_
     refine c_val (val_var rfl) ?_
     refine w_pos ?_
     refine c_val (val_var rfl) ?_
     refine ⟨_, rfl, ?_⟩
     refine w_pon ?_
     refine w_cutL r1 fun p249 H253 np252 c250 r251 => ?_
     have d254 : Dj F0 [p249] := Ty.nin r0 np252
     have d255 : Dj F1 [p249] := Ty.nin r1 np252
     have d256 : Dj F2 [p249] := Ty.nin r2 np252
     have d257 : Dj [p238] [p249] := Ty.nin r240 np252
     have n258 : ∀ a ∈ [p249], H0 a = none := one_fresh (c0.dom p249 np252)
     have r0 := Ty.ex r0 c250
     have r1 := Ty.ex r1 c250
     have r2 := Ty.ex r2 c250
     have r240 := Ty.ex r240 c250
     have c0 := c0.trans c250.none
     obtain ⟨x259, hx259, hm⟩ := Mi.bnd hm
     refine w_cat r240 r251 hx259 fun p260 H264 np263 c261 r262 => ?_
     have d265 : Dj F0 [p260] := Ty.nin r0 np263
     have d266 : Dj F1 [p260] := Ty.nin r1 np263
     have d267 : Dj F2 [p260] := Ty.nin r2 np263
     have d268 : Dj [p238] [p260] := Ty.nin r240 np263
     have d269 : Dj [p249] [p260] := Ty.nin r251 np263
     have n270 : ∀ a ∈ [p260], H0 a = none := one_fresh (c0.dom p260 np263)
     have r0 := Ty.ex r0 c261
     have r1 := Ty.ex r1 c261
     have r2 := Ty.ex r2 c261
     have r240 := Ty.ex r240 c261
     have r251 := Ty.ex r251 c261
     have c0 := c0.trans c261.none
     obtain rfl := Option.some.inj hm
     exact hQ _ _ _ c0 r262 (fun a h => .inl (n270 a h)) r0
   replace hm := Mi.ifF hb hm
   refine w_fall ?_
   refine q_if (ans_t (val_eqI (val_var rfl) val_c)) (fun hb => ?_) (fun hb => ?_)
   ·
     replace hm := Mi.ifT hb hm
     refine q_ret ?_
     refine w_sl ?_
     refine c_val (val_var rfl) ?_
     refine w_pon ?_
     refine w_pos ?_
     refine c_val (val_var rfl) ?_
     refine ⟨_, rfl, ?_⟩
     refine w_cutL r1 fun p271 H275 np274 c272 r273 => ?_
     have d276 : Dj F0 [p271] := Ty.nin r0 np274
     have d277 : Dj F1 [p271] := Ty.nin r1 np274
     have d278 : Dj F2 [p271] := Ty.nin r2 np274
     have n279 : ∀ a ∈ [p271], H0 a = none := one_fresh (c0.dom p271 np274)
     have r0 := Ty.ex r0 c272
     have r1 := Ty.ex r1 c272
     have r2 := Ty.ex r2 c272
     have c0 := c0.trans c272.none
     obtain rfl := Option.some.inj hm
     exact hQ _ _ _ c0 r273 (fun a h => .inl (n279 a h)) r0
   replace hm := Mi.ifF hb hm
   refine w_fall ?_
   refine q_if (ans_t (val_eqI (val_var rfl) val_c)) (fun hb => ?_) (fun hb => ?_)
   ·
     replace hm := Mi.ifT hb hm
     refine q_ret ?_
     refine w_op ?_
     refine w_sl ?_
     refine c_val (val_var rfl) ?_
     refine w_pon ?_
     refine w_pos ?_
     refine c_val (val_var rfl) ?_
     refine ⟨_, rfl, ?_⟩
     refine w_cutL r1 fun p280 H284 np283 c281 r282 => ?_
     have d285 : Dj F0 [p280] := Ty.nin r0 np283
     have d286 : Dj F1 [p280] := Ty.nin r1 np283
     have d287 : Dj F2 [p280] := Ty.nin r2 np283
     have n288 : ∀ a ∈ [p280], H0 a = none := one_fresh (c0.dom p280 np283)
     have r0 := Ty.ex r0 c281
     have r1 := Ty.ex r1 c281
     have r2 := Ty.ex r2 c281
     have c0 := c0.trans c281.none
     refine w_sl ?_
     refine c_val (val_var rfl) ?_
     refine w_pos ?_
     refine c_val (val_min2 (val_var rfl) (val_lenL r2 (val_var rfl))) ?_
     refine ⟨_, rfl, ?_⟩
     refine w_pon ?_
     refine w_cutL r2 fun p289 H293 np292 c290 r291 => ?_
     have d294 : Dj F0 [p289] := Ty.nin r0 np292
     have d295 : Dj F1 [p289] := Ty.nin r1 np292
     have d296 : Dj F2 [p289] := Ty.nin r2 np292
     have d297 : Dj [p280] [p289] := Ty.nin r282 np292
     have n298 : ∀ a ∈ [p289], H0 a = none := one_fresh (c0.dom p289 np292)
     have r0 := Ty.ex r0 c290
     have r1 := Ty.ex r1 c290
     have r2 := Ty.ex r2 c290
     have r282 := Ty.ex r282 c290
     have c0 := c0.trans c290.none
     obtain ⟨x299, hx299, hm⟩ := Mi.bnd hm
     refine w_cat r282 r291 hx299 fun p300 H304 np303 c301 r302 => ?_
     have d305 : Dj F0 [p300] := Ty.nin r0 np303
     have d306 : Dj F1 [p300] := Ty.nin r1 np303
     have d307 : Dj F2 [p300] := Ty.nin r2 np303
     have d308 : Dj [p280] [p300] := Ty.nin r282 np303
     have d309 : Dj [p289] [p300] := Ty.nin r291 np303
     have n310 : ∀ a ∈ [p300], H0 a = none := one_fresh (c0.dom p300 np303)
     have r0 := Ty.ex r0 c301
     have r1 := Ty.ex r1 c301
     have r2 := Ty.ex r2 c301
     have r282 := Ty.ex r282 c301
     have r291 := Ty.ex r291 c301
     have c0 := c0.trans c301.none
     obtain rfl := Option.some.inj hm
     exact hQ _ _ _ c0 r302 (fun a h => .inl (n310 a h)) r0
   replace hm := Mi.ifF hb hm
   refine w_fall ?_
   refine q_ret ?_
   refine w_op ?_
   refine w_op ?_
   refine w_sl ?_
   refine c_val (val_var rfl) ?_
   refine w_pon ?_
   refine w_pos ?_
   refine c_val (val_var rfl) ?_
   refine ⟨_, rfl, ?_⟩
   refine w_cutL r1 fun p311 H315 np314 c312 r313 => ?_
   have d316 : Dj F0 [p311] := Ty.nin r0 np314
   have d317 : Dj F1 [p311] := Ty.nin r1 np314
   have d318 : Dj F2 [p311] := Ty.nin r2 np314
   have n319 : ∀ a ∈ [p311], H0 a = none := one_fresh (c0.dom p311 np314)
   have r0 := Ty.ex r0 c312
   have r1 := Ty.ex r1 c312
   have r2 := Ty.ex r2 c312
   have c0 := c0.trans c312.none
   refine w_lst ?_
   refine w_args (va_cons (val_cS (a := ([] : List Nat)) (by decide +kernel)) va_nil) ?_
   refine e_lst (K := K) (τ := yStr) (by exact Nat.le_of_ble_eq_true rfl) (.cons yStr_i .nil) fun p320 H324 np323 c321 r322 => ?_
   have d325 : Dj F0 [p320] := Ty.nin r0 np323
   have d326 : Dj F1 [p320] := Ty.nin r1 np323
   have d327 : Dj F2 [p320] := Ty.nin r2 np323
   have d328 : Dj [p311] [p320] := Ty.nin r313 np323
   have n329 : ∀ a ∈ [p320], H0 a = none := one_fresh (c0.dom p320 np323)
   have r0 := Ty.ex r0 c321
   have r1 := Ty.ex r1 c321
   have r2 := Ty.ex r2 c321
   have r313 := Ty.ex r313 c321
   have c0 := c0.trans c321.none
   obtain ⟨x330, hx330, hm⟩ := Mi.bnd hm
   refine w_cat r313 r322 hx330 fun p331 H335 np334 c332 r333 => ?_
   have d336 : Dj F0 [p331] := Ty.nin r0 np334
   have d337 : Dj F1 [p331] := Ty.nin r1 np334
   have d338 : Dj F2 [p331] := Ty.nin r2 np334
   have d339 : Dj [p311] [p331] := Ty.nin r313 np334
   have d340 : Dj [p320] [p331] := Ty.nin r322 np334
   have n341 : ∀ a ∈ [p331], H0 a = none := one_fresh (c0.dom p331 np334)
   have r0 := Ty.ex r0 c332
   have r1 := Ty.ex r1 c332
   have r2 := Ty.ex r2 c332
   have r313 := Ty.ex r313 c332
   have r322 := Ty.ex r322 c332
   have c0 := c0.trans c332.none
   refine w_sl ?_
   refine c_val (val_var rfl) ?_
   refine w_pos ?_
   refine c_val (val_var rfl) ?_
   refine ⟨_, rfl, ?_⟩
   refine w_pon ?_
   refine w_cutL r1 fun p342 H346 np345 c343 r344 => ?_
   have d347 : Dj F0 [p342] := Ty.nin r0 np345
   have d348 : Dj F1 [p342] := Ty.nin r1 np345
   have d349 : Dj F2 [p342] := Ty.nin r2 np345
   have d350 : Dj [p331] [p342] := Ty.nin r333 np345
   have n351 : ∀ a ∈ [p342], H0 a = none := one_fresh (c0.dom p342 np345)
   have r0 := Ty.ex r0 c343
   have r1 := Ty.ex r1 c343
   have r2 := Ty.ex r2 c343
   have r333 := Ty.ex r333 c343
   have c0 := c0.trans c343.none
   obtain ⟨x352, hx352, hm⟩ := Mi.bnd hm
   refine w_cat r333 r344 hx352 fun p353 H357 np356 c354 r355 => ?_
   have d358 : Dj F0 [p353] := Ty.nin r0 np356
   have d359 : Dj F1 [p353] := Ty.nin r1 np356
   have d360 : Dj F2 [p353] := Ty.nin r2 np356
   have d361 : Dj [p331] [p353] := Ty.nin r333 np356
   have d362 : Dj [p342] [p353] := Ty.nin r344 np356
   have n363 : ∀ a ∈ [p353], H0 a = none := one_fresh (c0.dom p353 np356)
   have r0 := Ty.ex r0 c354
   have r1 := Ty.ex r1 c354
   have r2 := Ty.ex r2 c354
   have r333 := Ty.ex r333 c354
   have r344 := Ty.ex r344 c354
   have c0 := c0.trans c354.none
   obtain rfl := Option.some.inj hm
   exact hQ _ _ _ c0 r355 (fun a h => .inl (n363 a h)) r0
theorem sc_l_text_changed : FnScope ["_law_hand_here", "_law_lines", "_law_kind", "_law_text", "_law_p", "_law_q", "_law_spot", "_law_sign_here", "_law_others", "_law_words"] ["_law_hand_here", "_law_lines"] (defScope s_l_text_changed) := ⟨rfl, rfl, rfl, by decide +kernel, rfl, by decide +kernel, by decide +kernel⟩
def sp_l_text_changed (K : PySem.W.Frag) : Sp := fun vs H Q _ => ∃ (v0 : V) (F0 : List Addr) (d0 : (List Int)) (v1 : V) (F1 : List Addr) (d1 : (List (List Nat))) (r : ((List Nat) × (List Int))), vs = [v0, v1] ∧ (yLst yInt).rep K H F0 v0 d0 ∧ (yLst yStr).rep K H F1 v1 d1 ∧ Dj F0 F1 ∧ Mi.m_l_text_changed d0 d1 = some r ∧ ∀ H', Chg (F0) H H' → (yLst yInt).rep K H' F0 v0 r.2 → Q (.str (toS r.1)) H'
theorem ok_l_text_changed (B : Bi mg) (CN : Cs w K mg) (D : Dfn K mg "_law_text_changed" s_l_text_changed) (C_l_pick : Cal P w K mg "_law_pick" ["_law_hand_here", "_law_size"] 1 (sp_l_pick K)) (C_l_sign : Cal P w K mg "_law_sign" ["_law_hand_here"] 2 (sp_l_sign K)) (C_l_changed : Cal P w K mg "_law_changed" ["_law_hand_here", "_law_words", "_law_others"] 4 (sp_l_changed K)) : Cal P w K mg "_law_text_changed" ["_law_hand_here", "_law_lines"] 5 (sp_l_text_changed K) := by
 obtain ⟨f, fd, F, g⟩ := D.ex
 refine ⟨f, fd, g, F.kp, bindsF F (fun _ _ _ _ _ _ us hl => match us, hl with | [_, _], _ => rfl), fun base => F.ok sc_l_text_changed (fun vs H Q E h => ?_) (fun cdv A outer s H0 vs Q E hr h => ?_)⟩
 · obtain ⟨v0, F0, d0, v1, F1, d1, r, rfl, r0, r1, dd0_1, hm, hQ⟩ := h; rfl
 ·
   obtain ⟨v0, F0, d0, v1, F1, d1, r, rfl, r0, r1, dd0_1, hm, hQ⟩ := h
   refine ⟨_, pss_cons (ps_set (i := 2) sc_l_text_changed.nd rfl (.inl rfl) (pe_cc C_l_pick hr (pa_cons (pv 0) (pa_cons pe_int pa_nil))))
     (pss_cons (ps_set (i := 3) sc_l_text_changed.nd rfl (.inl rfl) (pe_joinQ (K := K) pe_str (pv 1)))
     (pss_cons (ps_set (i := 4) sc_l_text_changed.nd rfl (.inl rfl) (pe_cc C_l_pick hr (pa_cons (pv 0) (pa_cons (pe_callB (cl_len (K := K)) (by rfl) B.len PySem.boot_len (pa_cons (pv 1) pa_nil)) pa_nil))))
     (pss_cons (ps_set (i := 5) sc_l_text_changed.nd rfl (.inl rfl) (pe_cc C_l_pick hr (pa_cons (pv 0) (pa_cons (pe_op op_add (pe_callB (cl_len (K := K)) (by rfl) B.len PySem.boot_len (pa_cons (pv 1) pa_nil)) pe_int) pa_nil))))
     (pss_cons (ps_set (i := 6) sc_l_text_changed.nd rfl (.inl rfl) (pe_cc C_l_pick hr (pa_cons (pv 0) (pa_cons (pe_op op_add (pe_callB cl_lenTx (by rfl) B.len PySem.boot_len (pa_cons (pv 3) pa_nil)) pe_int) pa_nil))))
     (pss_cons (ps_set (i := 7) sc_l_text_changed.nd rfl (.inl rfl) (pe_ix (ix_l (K := K)) (pe_lst (pa_cons (pe_cc C_l_sign hr (pa_cons (pv 0) pa_nil)) (pa_cons pe_str pa_nil))) (pe_op op_fdiv (pe_cc C_l_pick hr (pa_cons (pv 0) (pa_cons pe_int pa_nil))) pe_int) (fun _ _ => rfl)))
     (pss_cons (ps_if (PW.pt (pw_or (pt_cmpR op_lt (pv 2) pe_int (nomark _)) (pw_or1 (pt_cmpR op_eq (pe_callB (cl_len (K := K)) (by rfl) B.len PySem.boot_len (pa_cons (pv 1) pa_nil)) pe_int (nomark _))))) (pss_cons (ps_ret (pe_ix (ix_l (K := K)) (pe_lst (pa_cons (pv 3) (pa_cons (pe_op op_catS (pv 3) pe_str) (pa_cons (pv 3) pa_nil)))) (pe_callB (cl_min2 rfl) (by rfl) B.min (by decide +kernel) (pa_cons (pv 2) (pa_cons pe_int pa_nil))) (fun _ _ => rfl))) pss_nil) (pss_nil))
     (pss_cons (ps_if (pt_cmpR op_eq (pv 2) pe_int (nomark _)) (pss_cons (ps_ret (pe_joinQ (K := K) pe_str (pe_op op_cat (pe_slice (sl_l (K := K)) (pv 1) po_none (po_some (pv 4))) (pe_slice (sl_l (K := K)) (pv 1) (po_some (pe_op op_add (pv 4) pe_int)) po_none)))) pss_nil) (pss_nil))
     (pss_cons (ps_if (pt_cmpR op_eq (pv 2) pe_int (nomark _)) (pss_cons (ps_ret (pe_joinQ (K := K) pe_str (pe_op op_cat (pe_op op_cat (pe_slice (sl_l (K := K)) (pv 1) po_none (po_some (pv 5))) (pe_lst (pa_cons pe_str pa_nil))) (pe_slice (sl_l (K := K)) (pv 1) (po_some (pv 5)) po_none)))) pss_nil) (pss_nil))
     (pss_cons (ps_if (pt_cmpR op_eq (pv 2) pe_int (nomark _)) (pss_cons (ps_ret (pe_op op_catS (pe_op op_catS (pe_slice sl_str (pv 3) po_none (po_some (pv 6))) (pv 7)) (pe_slice sl_str (pv 3) (po_some (pv 6)) po_none))) pss_nil) (pss_nil))
     (pss_cons (ps_if (pt_cmpR op_eq (pv 2) pe_int (nomark _)) (pss_cons (ps_ret (pe_op op_catS (pe_slice sl_str (pv 3) po_none (po_some (pv 6))) (pe_slice sl_str (pv 3) (po_some (pe_op op_add (pv 6) pe_int)) po_none))) pss_nil) (pss_nil))
     (pss_cons (ps_if (pt_cmpR op_eq (pv 2) pe_int (nomark _)) (pss_cons (ps_ret (pe_op op_catS (pe_op op_catS (pe_slice sl_str (pv 3) po_none (po_some (pv 6))) (pv 7)) (pe_slice sl_str (pv 3) (po_some (pe_op op_add (pv 6) pe_int)) po_none))) pss_nil) (pss_nil))
     (pss_cons (ps_if (pt_cmpR op_eq (pv 2) pe_int (nomark _)) (pss_cons (ps_ret (pe_slice sl_str (pv 3) po_none (po_some (pv 6)))) pss_nil) (pss_nil))
     (pss_cons (ps_set (i := 8) sc_l_text_changed.nd rfl (.inl rfl) (pe_spl (pe_ix (ix_l (K := K)) (pv 1) (pe_callB (cl_min2 rfl) (by rfl) B.min (by decide +kernel) (pa_cons (pv 5) (pa_cons (pe_op op_sub (pe_callB (cl_len (K := K)) (by rfl) B.len PySem.boot_len (pa_cons (pv 1) pa_nil)) pe_int) pa_nil))) (fun _ _ => rfl)) pe_str))
     (pss_cons (ps_set (i := 9) sc_l_text_changed.nd rfl (.inl rfl) (pe_cc C_l_changed hr (pa_cons (pv 0) (pa_cons (pe_spl (pe_ix (ix_l (K := K)) (pv 1) (pv 4) (fun _ _ => rfl)) pe_str) (pa_cons (pv 8) pa_nil)))))
     (pss_cons (ps_ret (pe_joinQ (K := K) pe_str (pe_op op_cat (pe_op op_cat (pe_slice (sl_l (K := K)) (pv 1) po_none (po_some (pv 4))) (pe_lst (pa_cons (pe_joinQ (K := K) pe_str (pv 9)) pa_nil))) (pe_slice (sl_l (K := K)) (pv 1) (po_some (pe_op op_add (pv 4) pe_int)) po_none)))) pss_nil))))))))))))))), ?_⟩
   have c0 : Chg (F0) H0 H0 := Chg.refl H0
   unfold Mi.m_l_text_changed at hm
   refine q_asg ?_
   refine w_call ?_
   refine w_args (va_cons (val_var rfl) (va_cons val_c va_nil)) ?_
   obtain ⟨q3, hq3, hm⟩ := Mi.bnd hm
   refine ⟨v0, F0, d0, (13 : Int), q3, rfl, r0, hq3, fun H5 c4 r0 => ?_⟩
   have r1 := Ty.chg r1 c4 dd0_1.symm
   have c0 := c0.join c4 (fun a h => .inl (h))
   refine g_name (σ' := [some v0, some v1, some (.int q3.1), none, none, none, none, none, none, none]) rfl ?_
   refine q_asg ?_
   refine w_m1 ?_
   refine c_val (val_cS (a := ([10] : List Nat)) (by decide +kernel)) ?_
   refine ⟨⟨_, rfl⟩, ?_⟩
   refine c_val (val_var rfl) ?_
   obtain ⟨x6, hx6, hm⟩ := Mi.bnd hm
   refine w_joinL r1 hx6 ?_
   refine g_name (σ' := [some v0, some v1, some (.int q3.1), some (.str (toS x6)), none, none, none, none, none, none]) rfl ?_
   refine q_asg ?_
   refine w_call ?_
   refine w_args (va_cons (val_var rfl) (va_cons (val_lenL r1 (val_var rfl)) va_nil)) ?_
   obtain ⟨q7, hq7, hm⟩ := Mi.bnd hm
   refine ⟨v0, F0, q3.2, (d1.length : Int), q7, rfl, r0, hq7, fun H9 c8 r0 => ?_⟩
   have r1 := Ty.chg r1 c8 dd0_1.symm
   have c0 := c0.join c8 (fun a h => .inl (h))
   refine g_name (σ' := [some v0, some v1, some (.int q3.1), some (.str (toS x6)), some (.int q7.1), none, none, none, none, none]) rfl ?_
   refine q_asg ?_
   refine w_call ?_
   refine w_args (va_cons (val_var rfl) (va_cons (val_add (val_lenL r1 (val_var rfl)) val_c) va_nil)) ?_
   obtain ⟨q10, hq10, hm⟩ := Mi.bnd hm
   refine ⟨v0, F0, q7.2, ((d1.length : Int) + (1 : Int)), q10, rfl, r0, hq10, fun H12 c11 r0 => ?_⟩
   have r1 := Ty.chg r1 c11 dd0_1.symm
   have c0 := c0.join c11 (fun a h => .inl (h))
   refine g_name (σ' := [some v0, some v1, some (.int q3.1), some (.str (toS x6)), some (.int q7.1), some (.int q10.1), none, none, none, none]) rfl ?_
   refine q_asg ?_
   refine w_call ?_
   obtain ⟨x13, hx13, hm⟩ := Mi.bnd hm
   refine w_args (va_cons (val_var rfl) (va_cons (val_add (val_lenTx hx13 (val_var rfl)) val_c) va_nil)) ?_
   obtain ⟨q14, hq14, hm⟩ := Mi.bnd hm
   refine ⟨v0, F0, q10.2, (x13 + (1 : Int)), q14, rfl, r0, hq14, fun H16 c15 r0 => ?_⟩
   have r1 := Ty.chg r1 c15 dd0_1.symm
   have c0 := c0.join c15 (fun a h => .inl (h))
   refine g_name (σ' := [some v0, some v1, some (.int q3.1), some (.str (toS x6)), some (.int q7.1), some (.int q10.1), some (.int q14.1), none, none, none]) rfl ?_
   refine q_asg ?_
   refine w_op ?_
   refine w_lst ?_
   refine w_cons ?_
   refine w_call ?_
   refine w_args (va_cons (val_var rfl) va_nil) ?_
   obtain ⟨q17, hq17, hm⟩ := Mi.bnd hm
   refine ⟨v0, F0, q14.2, q17, rfl, r0, hq17, fun H19 c18 r0 => ?_⟩
   have r1 := Ty.chg r1 c18 dd0_1.symm
   have c0 := c0.join c18 (fun a h => .inl (h))
   refine w_cons ?_
   refine c_val (val_cS (a := ([10] : List Nat)) (by decide +kernel)) ?_
   refine w_nil ?_
   refine e_lst (K := K) (τ := yStr) (by exact Nat.le_of_ble_eq_true rfl) (.cons yStr_i (.cons yStr_i .nil)) fun p20 H24 np23 c21 r22 => ?_
   have d25 : Dj F0 [p20] := Ty.nin r0 np23
   have d26 : Dj F1 [p20] := Ty.nin r1 np23
   have n27 : ∀ a ∈ [p20], H0 a = none := one_fresh (c0.dom p20 np23)
   have r0 := Ty.ex r0 c21
   have r1 := Ty.ex r1 c21
   have c0 := c0.trans c21.none
   refine w_op ?_
   refine w_call ?_
   refine w_args (va_cons (val_var rfl) (va_cons val_c va_nil)) ?_
   obtain ⟨q28, hq28, hm⟩ := Mi.bnd hm
   refine ⟨v0, F0, q17.2, (5 : Int), q28, rfl, r0, hq28, fun H30 c29 r0 => ?_⟩
   have r1 := Ty.chg r1 c29 dd0_1.symm
   have r22 := Ty.chg r22 c29 d25.symm
   have c0 := c0.join c29 (fun a h => .inl (h))
   refine c_val val_c ?_
   refine w_I ⟨by decide, by decide⟩ ?_
   obtain ⟨x31, hx31, hm⟩ := Mi.bnd hm
   refine w_ixL r22 hx31 fun u32 r33 => ?_
   obtain ⟨_, rfl⟩ := r33
   refine g_name (σ' := [some v0, some v1, some (.int q3.1), some (.str (toS x6)), some (.int q7.1), some (.int q10.1), some (.int q14.1), some (.str (toS x31)), none, none]) rfl ?_
   refine q_if (ans_orB (ans_t (val_lt (val_var rfl) val_c)) (fun _ => (ans_t (val_eqI (val_lenL r1 (val_var rfl)) val_c)))) (fun hb => ?_) (fun hb => ?_)
   ·
     replace hm := Mi.ifT hb hm
     refine q_ret ?_
     refine w_op ?_
     refine w_lst ?_
     obtain ⟨x35, hx35, hm⟩ := Mi.bnd hm
     refine w_args (va_cons (val_var rfl) (va_cons (val_catS hx35 (val_var rfl) (val_cS (a := ([10] : List Nat)) (by decide +kernel))) (va_cons (val_var rfl) va_nil))) ?_
     refine e_lst (K := K) (τ := yStr) (by exact Nat.le_of_ble_eq_true rfl) (.cons yStr_i (.cons yStr_i (.cons yStr_i .nil))) fun p36 H40 np39 c37 r38 => ?_
     have d41 : Dj F0 [p36] := Ty.nin r0 np39
     have d42 : Dj F1 [p36] := Ty.nin r1 np39
     have n43 : ∀ a ∈ [p36], H0 a = none := one_fresh (c0.dom p36 np39)
     have r0 := Ty.ex r0 c37
     have r1 := Ty.ex r1 c37
     have c0 := c0.trans c37.none
     refine c_val (val_min2 (val_var rfl) val_c) ?_
     obtain ⟨x44, hx44, hm⟩ := Mi.bnd hm
     refine w_ixL r38 hx44 fun u45 r46 => ?_
     obtain ⟨_, rfl⟩ := r46
     obtain rfl := Option.some.inj hm
     exact hQ _ c0 r0
   replace hm := Mi.ifF hb hm
   refine w_fall ?_
   refine q_if (ans_t (val_eqI (val_var rfl) val_c)) (fun hb => ?_) (fun hb => ?_)
   ·
     replace hm := Mi.ifT hb hm
     refine q_ret ?_
     refine w_m1 ?_
     refine c_val (val_cS (a := ([10] : List Nat)) (by decide +kernel)) ?_
     refine ⟨⟨_, rfl⟩, ?_⟩
     refine w_op ?_
     refine w_sl ?_
     refine c_val (val_var rfl) ?_
     refine w_pon ?_
     refine w_pos ?_
     refine c_val (val_var rfl) ?_
     refine ⟨_, rfl, ?_⟩
     refine w_cutL r1 fun p47 H51 np50 c48 r49 => ?_
     have d52 : Dj F0 [p47] := Ty.nin r0 np50
     have d53 : Dj F1 [p47] := Ty.nin r1 np50
     have n54 : ∀ a ∈ [p47], H0 a = none := one_fresh (c0.dom p47 np50)
     have r0 := Ty.ex r0 c48
     have r1 := Ty.ex r1 c48
     have c0 := c0.trans c48.none
     refine w_sl ?_
     refine c_val (val_var rfl) ?_
     refine w_pos ?_
     refine c_val (val_add (val_var rfl) val_c) ?_
     refine ⟨_, rfl, ?_⟩
     refine w_pon ?_
     refine w_cutL r1 fun p55 H59 np58 c56 r57 => ?_
     have d60 : Dj F0 [p55] := Ty.nin r0 np58
     have d61 : Dj F1 [p55] := Ty.nin r1 np58
     have d62 : Dj [p47] [p55] := Ty.nin r49 np58
     have n63 : ∀ a ∈ [p55], H0 a = none := one_fresh (c0.dom p55 np58)
     have r0 := Ty.ex r0 c56
     have r1 := Ty.ex r1 c56
     have r49 := Ty.ex r49 c56
     have c0 := c0.trans c56.none
     obtain ⟨x64, hx64, hm⟩ := Mi.bnd hm
     refine w_cat r49 r57 hx64 fun p65 H69 np68 c66 r67 => ?_
     have d70 : Dj F0 [p65] := Ty.nin r0 np68
     have d71 : Dj F1 [p65] := Ty.nin r1 np68
     have d72 : Dj [p47] [p65] := Ty.nin r49 np68
     have d73 : Dj [p55] [p65] := Ty.nin r57 np68
     have n74 : ∀ a ∈ [p65], H0 a = none := one_fresh (c0.dom p65 np68)
     have r0 := Ty.ex r0 c66
     have r1 := Ty.ex r1 c66
     have r49 := Ty.ex r49 c66
     have r57 := Ty.ex r57 c66
     have c0 := c0.trans c66.none
     obtain ⟨x75, hx75, hm⟩ := Mi.bnd hm
     refine w_joinL r67 hx75 ?_
     obtain rfl := Option.some.inj hm
     exact hQ _ c0 r0
   replace hm := Mi.ifF hb hm
   refine w_fall ?_
   refine q_if (ans_t (val_eqI (val_var rfl) val_c)) (fun hb => ?_) (fun hb => ?_)
   ·
     replace hm := Mi.ifT hb hm
     refine q_ret ?_
     refine w_m1 ?_
     refine c_val (val_cS (a := ([10] : List Nat)) (by decide +kernel)) ?_
     refine ⟨⟨_, rfl⟩, ?_⟩
     refine w_op ?_
     refine w_op ?_
     refine w_sl ?_
     refine c_val (val_var rfl) ?_
     refine w_pon ?_
     refine w_pos ?_
     refine c_val (val_var rfl) ?_
     refine ⟨_, rfl, ?_⟩
     refine w_cutL r1 fun p76 H80 np79 c77 r78 => ?_
     have d81 : Dj F0 [p76] := Ty.nin r0 np79
     have d82 : Dj F1 [p76] := Ty.nin r1 np79
     have n83 : ∀ a ∈ [p76], H0 a = none := one_fresh (c0.dom p76 np79)
     have r0 := Ty.ex r0 c77
     have r1 := Ty.ex r1 c77
     have c0 := c0.trans c77.none
     refine w_lst ?_
     refine w_args (va_cons (val_cS (a := ([] : List Nat)) (by decide +kernel)) va_nil) ?_
     refine e_lst (K := K) (τ := yStr) (by exact Nat.le_of_ble_eq_true rfl) (.cons yStr_i .nil) fun p84 H88 np87 c85 r86 => ?_
     have d89 : Dj F0 [p84] := Ty.nin r0 np87
     have d90 : Dj F1 [p84] := Ty.nin r1 np87
     have d91 : Dj [p76] [p84] := Ty.nin r78 np87
     have n92 : ∀ a ∈ [p84], H0 a = none := one_fresh (c0.dom p84 np87)
     have r0 := Ty.ex r0 c85
     have r1 := Ty.ex r1 c85
     have r78 := Ty.ex r78 c85
     have c0 := c0.trans c85.none
     obtain ⟨x93, hx93, hm⟩ := Mi.bnd hm
     refine w_cat r78 r86 hx93 fun p94 H98 np97 c95 r96 => ?_
     have d99 : Dj F0 [p94] := Ty.nin r0 np97
     have d100 : Dj F1 [p94] := Ty.nin r1 np97
     have d101 : Dj [p76] [p94] := Ty.nin r78 np97
     have d102 : Dj [p84] [p94] := Ty.nin r86 np97
     have n103 : ∀ a ∈ [p94], H0 a = none := one_fresh (c0.dom p94 np97)
     have r0 := Ty.ex r0 c95
     have r1 := Ty.ex r1 c95
     have r78 := Ty.ex r78 c95
     have r86 := Ty.ex r86 c95
     have c0 := c0.trans c95.none
     refine w_sl ?_
     refine c_val (val_var rfl) ?_
     refine w_pos ?_
     refine c_val (val_var rfl) ?_
     refine ⟨_, rfl, ?_⟩
     refine w_pon ?_
     refine w_cutL r1 fun p104 H108 np107 c105 r106 => ?_
     have d109 : Dj F0 [p104] := Ty.nin r0 np107
     have d110 : Dj F1 [p104] := Ty.nin r1 np107
     have d111 : Dj [p94] [p104] := Ty.nin r96 np107
     have n112 : ∀ a ∈ [p104], H0 a = none := one_fresh (c0.dom p104 np107)
     have r0 := Ty.ex r0 c105
     have r1 := Ty.ex r1 c105
     have r96 := Ty.ex r96 c105
     have c0 := c0.trans c105.none
     obtain ⟨x113, hx113, hm⟩ := Mi.bnd hm
     refine w_cat r96 r106 hx113 fun p114 H118 np117 c115 r116 => ?_
     have d119 : Dj F0 [p114] := Ty.nin r0 np117
     have d120 : Dj F1 [p114] := Ty.nin r1 np117
     have d121 : Dj [p94] [p114] := Ty.nin r96 np117
     have d122 : Dj [p104] [p114] := Ty.nin r106 np117
     have n123 : ∀ a ∈ [p114], H0 a = none := one_fresh (c0.dom p114 np117)
     have r0 := Ty.ex r0 c115
     have r1 := Ty.ex r1 c115
     have r96 := Ty.ex r96 c115
     have r106 := Ty.ex r106 c115
     have c0 := c0.trans c115.none
     obtain ⟨x124, hx124, hm⟩ := Mi.bnd hm
     refine w_joinL r116 hx124 ?_
     obtain rfl := Option.some.inj hm
     exact hQ _ c0 r0
   replace hm := Mi.ifF hb hm
   refine w_fall ?_
   refine q_if (ans_t (val_eqI (val_var rfl) val_c)) (fun hb => ?_) (fun hb => ?_)
   ·
     replace hm := Mi.ifT hb hm
     refine q_ret ?_
     refine w_op ?_
     refine w_op ?_
     refine w_sl ?_
     refine c_val (val_var rfl) ?_
     refine w_pon ?_
     refine w_pos ?_
     refine c_val (val_var rfl) ?_
     refine ⟨_, rfl, ?_⟩
     obtain ⟨x125, hx125, hm⟩ := Mi.bnd hm
     refine w_cutS hx125 ?_
     refine c_val (val_var rfl) ?_
     obtain ⟨x126, hx126, hm⟩ := Mi.bnd hm
     refine w_catS hx126 ?_
     refine w_sl ?_
     refine c_val (val_var rfl) ?_
     refine w_pos ?_
     refine c_val (val_var rfl) ?_
     refine ⟨_, rfl, ?_⟩
     refine w_pon ?_
     obtain ⟨x127, hx127, hm⟩ := Mi.bnd hm
     refine w_cutS hx127 ?_
     obtain ⟨x128, hx128, hm⟩ := Mi.bnd hm
     refine w_catS hx128 ?_
     obtain rfl := Option.some.inj hm
     exact hQ _ c0 r0
   replace hm := Mi.ifF hb hm
   refine w_fall ?_
   refine q_if (ans_t (val_eqI (val_var rfl) val_c)) (fun hb => ?_) (fun hb => ?_)
   ·
     replace hm := Mi.ifT hb hm
     refine q_ret ?_
     refine w_op ?_
     refine w_sl ?_
     refine c_val (val_var rfl) ?_
     refine w_pon ?_
     refine w_pos ?_
     refine c_val (val_var rfl) ?_
     refine ⟨_, rfl, ?_⟩
     obtain ⟨x129, hx129, hm⟩ := Mi.bnd hm
     refine w_cutS hx129 ?_
     refine w_sl ?_
     refine c_val (val_var rfl) ?_
     refine w_pos ?_
     refine c_val (val_add (val_var rfl) val_c) ?_
     refine ⟨_, rfl, ?_⟩
     refine w_pon ?_
     obtain ⟨x130, hx130, hm⟩ := Mi.bnd hm
     refine w_cutS hx130 ?_
     obtain ⟨x131, hx131, hm⟩ := Mi.bnd hm
     refine w_catS hx131 ?_
     obtain rfl := Option.some.inj hm
     exact hQ _ c0 r0
   replace hm := Mi.ifF hb hm
   refine w_fall ?_
   refine q_if (ans_t (val_eqI (val_var rfl) val_c)) (fun hb => ?_) (fun hb => ?_)
   ·
     replace hm := Mi.ifT hb hm
     refine q_ret ?_
     refine w_op ?_
     refine w_op ?_
     refine w_sl ?_
     refine c_val (val_var rfl) ?_
     refine w_pon ?_
     refine w_pos ?_
     refine c_val (val_var rfl) ?_
     refine ⟨_, rfl, ?_⟩
     obtain ⟨x132, hx132, hm⟩ := Mi.bnd hm
     refine w_cutS hx132 ?_
     refine c_val (val_var rfl) ?_
     obtain ⟨x133, hx133, hm⟩ := Mi.bnd hm
     refine w_catS hx133 ?_
     refine w_sl ?_
     refine c_val (val_var rfl) ?_
     refine w_pos ?_
     refine c_val (val_add (val_var rfl) val_c) ?_
     refine ⟨_, rfl, ?_⟩
     refine w_pon ?_
     obtain ⟨x134, hx134, hm⟩ := Mi.bnd hm
     refine w_cutS hx134 ?_
     obtain ⟨x135, hx135, hm⟩ := Mi.bnd hm
     refine w_catS hx135 ?_
     obtain rfl := Option.some.inj hm
     exact hQ _ c0 r0
   replace hm := Mi.ifF hb hm
   refine w_fall ?_
   refine q_if (ans_t (val_eqI (val_var rfl) val_c)) (fun hb => ?_) (fun hb => ?_)
   ·
     replace hm := Mi.ifT hb hm
     refine q_ret ?_
     refine w_sl ?_
     refine c_val (val_var rfl) ?_
     refine w_pon ?_
     refine w_pos ?_
     refine c_val (val_var rfl) ?_
     refine ⟨_, rfl, ?_⟩
     obtain ⟨x136, hx136, hm⟩ := Mi.bnd hm
     refine w_cutS hx136 ?_
     obtain rfl := Option.some.inj hm
     exact hQ _ c0 r0
   replace hm := Mi.ifF hb hm
   refine w_fall ?_
   refine q_asg ?_
   refine w_m1 ?_
   obtain ⟨x137, hx137, hm⟩ := Mi.bnd hm
   obtain ⟨u138, r139, ku140⟩ := itm_L r1 hx137
   obtain ⟨_, rfl⟩ := r139
   refine c_val (ku140 (val_var rfl) (val_min2 (val_var rfl) (val_sub (val_lenL r1 (val_var rfl)) val_c))) ?_
   refine ⟨⟨_, rfl⟩, ?_⟩
   refine c_val (val_cS (a := ([32] : List Nat)) (by decide +kernel)) ?_
   obtain ⟨x141, hx141, hm⟩ := Mi.bnd hm
   refine w_spl (K := K) hx141 fun p142 H146 np145 c143 r144 => ?_
   have d147 : Dj F0 [p142] := Ty.nin r0 np145
   have d148 : Dj F1 [p142] := Ty.nin r1 np145
   have n149 : ∀ a ∈ [p142], H0 a = none := one_fresh (c0.dom p142 np145)
   have r0 := Ty.ex r0 c143
   have r1 := Ty.ex r1 c143
   have c0 := c0.trans c143.none
   refine g_name (σ' := [some v0, some v1, some (.int q3.1), some (.str (toS x6)), some (.int q7.1), some (.int q10.1), some (.int q14.1), some (.str (toS x31)), some (.ref p142), none]) rfl ?_
   refine q_asg ?_
   refine w_call ?_
   refine w_cons ?_
   refine c_val (val_var rfl) ?_
   refine w_cons ?_
   refine w_m1 ?_
   obtain ⟨x150, hx150, hm⟩ := Mi.bnd hm
   obtain ⟨u151, r152, ku153⟩ := itm_L r1 hx150
   obtain ⟨_, rfl⟩ := r152
   refine c_val (ku153 (val_var rfl) (val_var rfl)) ?_
   refine ⟨⟨_, rfl⟩, ?_⟩
   refine c_val (val_cS (a := ([32] : List Nat)) (by decide +kernel)) ?_
   obtain ⟨x154, hx154, hm⟩ := Mi.bnd hm
   refine w_spl (K := K) hx154 fun p155 H159 np158 c156 r157 => ?_
   have d160 : Dj F0 [p155] := Ty.nin r0 np158
   have d161 : Dj F1 [p155] := Ty.nin r1 np158
   have d162 : Dj [p142] [p155] := Ty.nin r144 np158
   have n163 : ∀ a ∈ [p155], H0 a = none := one_fresh (c0.dom p155 np158)
   have r0 := Ty.ex r0 c156
   have r1 := Ty.ex r1 c156
   have r144 := Ty.ex r144 c156
   have c0 := c0.trans c156.none
   refine w_cons ?_
   refine c_val (val_var rfl) ?_
   refine w_nil ?_
   obtain ⟨q164, hq164, hm⟩ := Mi.bnd hm
   have r0_old := r0
   refine ⟨v0, F0, q28.2, (.ref p155), [p155], x154, (.ref p142), [p142], x141, q164, rfl, r0, r157, r144, d160, d147, hq164, fun v167 H166 F169 c165 r168 fr170 r0 => ?_⟩
   have d171 : Dj F0 F169 := Ty.freshOr r0_old fr170 (d160)
   have d172 : Dj F1 F169 := Ty.freshOr r1 fr170 (d161)
   have d173 : Dj [p142] F169 := Ty.freshOr r144 fr170 (d162)
   have n174 : ∀ a ∈ F169, H0 a = none := fun a h => (fr170 a h).elim (fun z => c0.dom a z) (fun z => n163 a z)
   have r1 := Ty.chg r1 c165 dd0_1.symm
   have r144 := Ty.chg r144 c165 d147.symm
   have c0 := c0.join c165 (fun a h => .inl (h))
   refine g_name (σ' := [some v0, some v1, some (.int q3.1), some (.str (toS x6)), some (.int q7.1), some (.int q10.1), some (.int q14.1), some (.str (toS x31)), some (.ref p142), some v167]) rfl ?_
   refine q_ret ?_
   refine w_m1 ?_
   refine c_val (val_cS (a := ([10] : List Nat)) (by decide +kernel)) ?_
   refine ⟨⟨_, rfl⟩, ?_⟩
   refine w_op ?_
   refine w_op ?_
   refine w_sl ?_
   refine c_val (val_var rfl) ?_
   refine w_pon ?_
   refine w_pos ?_
   refine c_val (val_var rfl) ?_
   refine ⟨_, rfl, ?_⟩
   refine w_cutL r1 fun p175 H179 np178 c176 r177 => ?_
   have d180 : Dj F0 [p175] := Ty.nin r0 np178
   have d181 : Dj F1 [p175] := Ty.nin r1 np178
   have d182 : Dj [p142] [p175] := Ty.nin r144 np178
   have d183 : Dj F169 [p175] := Ty.nin r168 np178
   have n184 : ∀ a ∈ [p175], H0 a = none := one_fresh (c0.dom p175 np178)
   have r0 := Ty.ex r0 c176
   have r1 := Ty.ex r1 c176
   have r144 := Ty.ex r144 c176
   have r168 := Ty.ex r168 c176
   have c0 := c0.trans c176.none
   refine w_lst ?_
   refine w_cons ?_
   refine w_m1 ?_
   refine c_val (val_cS (a := ([32] : List Nat)) (by decide +kernel)) ?_
   refine ⟨⟨_, rfl⟩, ?_⟩
   refine c_val (val_var rfl) ?_
   obtain ⟨x185, hx185, hm⟩ := Mi.bnd hm
   refine w_joinL r168 hx185 ?_
   refine w_nil ?_
   refine e_lst (K := K) (τ := yStr) (by exact Nat.le_of_ble_eq_true rfl) (.cons yStr_i .nil) fun p186 H190 np189 c187 r188 => ?_
   have d191 : Dj F0 [p186] := Ty.nin r0 np189
   have d192 : Dj F1 [p186] := Ty.nin r1 np189
   have d193 : Dj [p142] [p186] := Ty.nin r144 np189
   have d194 : Dj F169 [p186] := Ty.nin r168 np189
   have d195 : Dj [p175] [p186] := Ty.nin r177 np189
   have n196 : ∀ a ∈ [p186], H0 a = none := one_fresh (c0.dom p186 np189)
   have r0 := Ty.ex r0 c187
   have r1 := Ty.ex r1 c187
   have r144 := Ty.ex r144 c187
   have r168 := Ty.ex r168 c187
   have r177 := Ty.ex r177 c187
   have c0 := c0.trans c187.none
   obtain ⟨x197, hx197, hm⟩ := Mi.bnd hm
   refine w_cat r177 r188 hx197 fun p198 H202 np201 c199 r200 => ?_
   have d203 : Dj F0 [p198] := Ty.nin r0 np201
   have d204 : Dj F1 [p198] := Ty.nin r1 np201
   have d205 : Dj [p142] [p198] := Ty.nin r144 np201
   have d206 : Dj F169 [p198] := Ty.nin r168 np201
   have d207 : Dj [p175] [p198] := Ty.nin r177 np201
   have d208 : Dj [p186] [p198] := Ty.nin r188 np201
   have n209 : ∀ a ∈ [p198], H0 a = none := one_fresh (c0.dom p198 np201)
   have r0 := Ty.ex r0 c199
   have r1 := Ty.ex r1 c199
   have r144 := Ty.ex r144 c199
   have r168 := Ty.ex r168 c199
   have r177 := Ty.ex r177 c199
   have r188 := Ty.ex r188 c199
   have c0 := c0.trans c199.none
   refine w_sl ?_
   refine c_val (val_var rfl) ?_
   refine w_pos ?_
   refine c_val (val_add (val_var rfl) val_c) ?_
   refine ⟨_, rfl, ?_⟩
   refine w_pon ?_
   refine w_cutL r1 fun p210 H214 np213 c211 r212 => ?_
   have d215 : Dj F0 [p210] := Ty.nin r0 np213
   have d216 : Dj F1 [p210] := Ty.nin r1 np213
   have d217 : Dj [p142] [p210] := Ty.nin r144 np213
   have d218 : Dj F169 [p210] := Ty.nin r168 np213
   have d219 : Dj [p198] [p210] := Ty.nin r200 np213
   have n220 : ∀ a ∈ [p210], H0 a = none := one_fresh (c0.dom p210 np213)
   have r0 := Ty.ex r0 c211
   have r1 := Ty.ex r1 c211
   have r144 := Ty.ex r144 c211
   have r168 := Ty.ex r168 c211
   have r200 := Ty.ex r200 c211
   have c0 := c0.trans c211.none
   obtain ⟨x221, hx221, hm⟩ := Mi.bnd hm
   refine w_cat r200 r212 hx221 fun p222 H226 np225 c223 r224 => ?_
   have d227 : Dj F0 [p222] := Ty.nin r0 np225
   have d228 : Dj F1 [p222] := Ty.nin r1 np225
   have d229 : Dj [p142] [p222] := Ty.nin r144 np225
   have d230 : Dj F169 [p222] := Ty.nin r168 np225
   have d231 : Dj [p198] [p222] := Ty.nin r200 np225
   have d232 : Dj [p210] [p222] := Ty.nin r212 np225
   have n233 : ∀ a ∈ [p222], H0 a = none := one_fresh (c0.dom p222 np225)
   have r0 := Ty.ex r0 c223
   have r1 := Ty.ex r1 c223
   have r144 := Ty.ex r144 c223
   have r168 := Ty.ex r168 c223
   have r200 := Ty.ex r200 c223
   have r212 := Ty.ex r212 c223
   have c0 := c0.trans c223.none
   obtain ⟨x234, hx234, hm⟩ := Mi.bnd hm
   refine w_joinL r224 hx234 ?_
   obtain rfl := Option.some.inj hm
   exact hQ _ c0 r0
theorem sc_l_asked : FnScope ["_law_text", "_law_told", "e"] ["_law_text"] (defScope s_l_asked) := ⟨rfl, rfl, rfl, by decide +kernel, rfl, by decide +kernel, by decide +kernel⟩
def sp_l_asked (K : PySem.W.Frag) : Sp := fun vs H Q _ => ∃ (d0 : (List Nat)) (r : (Bool × (Int ⊕ (List (List (Int ⊕ (List Nat) ⊕ Bool ⊕ (List Int) ⊕ (List Bool))))))), vs = [(.str (toS d0))] ∧ Mi.m_l_asked d0 = some r ∧ ∀ v H' F, Chg ([]) H H' → (yTup (sCons yBool (sOne (ySum yInt (yLst (yTupL (ySum yInt (ySum yStr (ySum yBool (ySum (yTupL yInt) (yTupL yBool))))))))))).rep K H' F v r → (∀ a ∈ F, H a = none) → Q v H'
theorem ok_l_asked (B : Bi mg) (CN : Cs w K mg) (D : Dfn K mg "_law_asked" s_l_asked) (C_parse_deeds_x : CalXN P w K mg "parse_deeds" ["text"] 6 (sp_parse_deeds_x K)) : Cal P w K mg "_law_asked" ["_law_text"] 7 (sp_l_asked K) := by
 obtain ⟨f, fd, F, g⟩ := D.ex
 refine ⟨f, fd, g, F.kp, bindsF F (fun _ _ _ _ _ _ us hl => match us, hl with | [_], _ => rfl), fun base => F.ok sc_l_asked (fun vs H Q E h => ?_) (fun cdv A outer s H0 vs Q E hr h => ?_)⟩
 · obtain ⟨d0, r, rfl, hm, hQ⟩ := h; rfl
 ·
   obtain ⟨d0, r, rfl, hm, hQ⟩ := h
   refine ⟨_, pss_cons (L2N.ps_try_as (i := 2) rfl rfl sc_l_asked.nd rfl rfl ⟨rfl, by decide, .inl CN.g_BadText⟩ take0N (fun W pn xe tk _ => pss_cons (ps_set (i := 1) sc_l_asked.nd rfl (.inl rfl) (pe_ccSN C_parse_deeds_x hr (fun σ => L2N.passAt tk σ) (pa_cons (pv 0) pa_nil))) pss_nil) (fun ae oe cl de pn hz hf => pss_cons (ps_ret (pe_tup (pa_cons pe_bl (pa_cons (pe_xf CN.x_BadText.xf CN.np_BadText hz.zc hf (pv 2)) pa_nil)))) pss_nil))
     (pss_cons (ps_ret (pe_tup (pa_cons pe_bl (pa_cons (pv 1) pa_nil)))) pss_nil), ?_⟩
   have c0 : Chg ([] : List Addr) H0 H0 := Chg.refl H0
   unfold Mi.m_l_asked at hm
   refine q_try ?_
   refine q_asg ?_
   refine w_callS ?_
   refine w_args (va_cons (val_var rfl) va_nil) ?_
   obtain ⟨q2, hq2, hm⟩ := Mi.bnd hm
   refine ⟨d0, q2, rfl, hq2, fun y9 yh10 d11 H16 c15 nn12 => ?_, fun q13 hqv14 => fun v5 H4 F7 c3 r6 fr8  => ?_⟩
   ·
     subst yh10
     replace hm := Mi.tryL hm
     have c0 := c0.trans c15.none
     have c17 : Chg [] H16 (upd H16 d11 (.xd [(("line" : Str), (.int y9))])) := Chg.lay nn12 trivial
     have c0 := c0.trans c17.none
     have hxd : (upd H16 d11 (.xd [(("line" : Str), (.int y9))])) d11 = some (.xd [(("line" : Str), (.int y9))]) := upd_same
     refine w_exc CN.em_BadText_BadText (fun ae18 na19 => ?_)
     refine st_eq (σ' := [some (.str (toS d0)), none, some (.ref ae18)]) rfl ?_
     refine q_ret ?_
     refine w_tup ?_
     refine w_args (va_cons val_c (va_cons (val_xf_line (val_var rfl) hxd) va_nil)) ?_
     refine e_tup (K := K) (ty := (sCons yBool (sOne (ySum yInt (yLst (yTupL (ySum yInt (ySum yStr (ySum yBool (ySum (yTupL yInt) (yTupL yBool))))))))))) (F := ([] ++ [])) (d := (true, (.inl y9))) (by exact Nat.le_of_ble_eq_true rfl) ⟨_, _, _, _, rfl, rfl, yBool_i, ⟨_, rfl, (sum_l yInt_i)⟩⟩ fun p20 H24 np23 c21 r22  => ?_
     have c0 := c0.trans c21.none
     obtain rfl := Option.some.inj hm
     exact hQ _ _ _ c0 r22 (app_fresh nil_fresh nil_fresh) 
   subst hqv14
   replace hm := Mi.tryR hm
   have n25 : ∀ a ∈ F7, H0 a = none := fun a h => c0.dom a (fr8 a h)
   have c0 := c0.trans c3.none
   refine g_name (σ' := [some (.str (toS d0)), some v5, none]) rfl ?_
   refine w_fall ?_
   refine q_ret ?_
   refine w_tup ?_
   refine w_args (va_cons val_c (va_cons (val_var rfl) va_nil)) ?_
   refine e_tup (K := K) (ty := (sCons yBool (sOne (ySum yInt (yLst (yTupL (ySum yInt (ySum yStr (ySum yBool (ySum (yTupL yInt) (yTupL yBool))))))))))) (F := ([] ++ F7)) (d := (false, (.inr q13))) (by exact Nat.le_of_ble_eq_true rfl) ⟨_, _, _, _, rfl, rfl, yBool_i, ⟨_, rfl, (sum_r r6)⟩⟩ fun p26 H30 np29 c27 r28  => ?_
   have r6 := Ty.ex r6 c27
   have c0 := c0.trans c27.none
   obtain rfl := Option.some.inj hm
   exact hQ _ _ _ c0 r28 (app_fresh nil_fresh n25) 
theorem sc_l_by_base : FnScope ["_law_text", "e"] ["_law_text"] (defScope s_l_by_base) := ⟨rfl, rfl, rfl, by decide +kernel, rfl, by decide +kernel, by decide +kernel⟩
def sp_l_by_base (K : PySem.W.Frag) : Sp := fun vs H Q _ => ∃ (d0 : (List Nat)) (r : Bool), vs = [(.str (toS d0))] ∧ Mi.m_l_by_base d0 = some r ∧ ∀ H', Chg ([]) H H' → Q (.bl r) H'
theorem ok_l_by_base (B : Bi mg) (CN : Cs w K mg) (D : Dfn K mg "_law_by_base" s_l_by_base) (C_parse_deeds_x : CalXN P w K mg "parse_deeds" ["text"] 6 (sp_parse_deeds_x K)) : Cal P w K mg "_law_by_base" ["_law_text"] 7 (sp_l_by_base K) := by
 obtain ⟨f, fd, F, g⟩ := D.ex
 refine ⟨f, fd, g, F.kp, bindsF F (fun _ _ _ _ _ _ us hl => match us, hl with | [_], _ => rfl), fun base => F.ok sc_l_by_base (fun vs H Q E h => ?_) (fun cdv A outer s H0 vs Q E hr h => ?_)⟩
 · obtain ⟨d0, r, rfl, hm, hQ⟩ := h; rfl
 ·
   obtain ⟨d0, r, rfl, hm, hQ⟩ := h
   refine ⟨_, pss_cons (L2N.ps_try_as (i := 1) rfl rfl sc_l_by_base.nd rfl rfl ⟨rfl, by decide, .inl CN.g_FleetError⟩ take0N (fun W pn xe tk _ => pss_cons (ps_expr (pe_ccSN C_parse_deeds_x hr (fun σ => L2N.passAt tk σ) (pa_cons (pv 0) pa_nil))) pss_nil) (fun ae oe cl de pn hz hf => pss_cons (ps_if (pt_val (pe_callB (call_isEt CN.x_BadText.xi hz.zc hf) (by rfl) B.isinstance (by decide +kernel) (pa_cons (pv 1) (pa_cons (pe_tup (pa_cons (pe_glob (v := .ref (He.ga K "InvalidChart")) (by rfl) CN.g_InvalidChart rfl) (pa_cons (pe_glob (v := .ref (He.ga K "InvalidShip")) (by rfl) CN.g_InvalidShip rfl) (pa_cons (pe_glob (v := .ref (He.ga K "InvalidLight")) (by rfl) CN.g_InvalidLight rfl) (pa_cons (pe_glob (v := .ref (He.ga K "InvalidReport")) (by rfl) CN.g_InvalidReport rfl) (pa_cons (pe_glob (v := .ref (He.ga K "InvalidLetter")) (by rfl) CN.g_InvalidLetter rfl) (pa_cons (pe_glob (v := .ref (He.ga K "InvalidSetting")) (by rfl) CN.g_InvalidSetting rfl) pa_nil))))))) pa_nil)))) (pss_cons ps_never pss_nil) pss_nil)
     (pss_cons (ps_if (pt_val (pe_callB (call_isEt CN.x_BadText.xi hz.zc hf) (by rfl) B.isinstance (by decide +kernel) (pa_cons (pv 1) (pa_cons (pe_tup (pa_cons (pe_glob (v := .ref (He.ga K "InvalidReceipt")) (by rfl) CN.g_InvalidReceipt rfl) (pa_cons (pe_glob (v := .ref (He.ga K "NotInPlay")) (by rfl) CN.g_NotInPlay rfl) (pa_cons (pe_glob (v := .ref (He.ga K "NoDriving")) (by rfl) CN.g_NoDriving rfl) (pa_cons (pe_glob (v := .ref (He.ga K "NoSuchNumber")) (by rfl) CN.g_NoSuchNumber rfl) (pa_cons (pe_glob (v := .ref (He.ga K "DoesNotFit")) (by rfl) CN.g_DoesNotFit rfl) (pa_cons (pe_glob (v := .ref (He.ga K "NoRun")) (by rfl) CN.g_NoRun rfl) pa_nil))))))) pa_nil)))) (pss_cons ps_never pss_nil) pss_nil)
     (pss_cons (ps_if (pt_val (pe_callB (call_isEt CN.x_BadText.xi hz.zc hf) (by rfl) B.isinstance (by decide +kernel) (pa_cons (pv 1) (pa_cons (pe_tup (pa_cons (pe_glob (v := .ref (He.ga K "NoWorld")) (by rfl) CN.g_NoWorld rfl) (pa_cons (pe_glob (v := .ref (He.ga K "NoWay")) (by rfl) CN.g_NoWay rfl) (pa_cons (pe_glob (v := .ref (He.ga K "InvalidOrder")) (by rfl) CN.g_InvalidOrder rfl) (pa_cons (pe_glob (v := .ref (He.ga K "InvalidStay")) (by rfl) CN.g_InvalidStay rfl) (pa_cons (pe_glob (v := .ref (He.ga K "BadClaim")) (by rfl) CN.g_BadClaim rfl) (pa_cons (pe_glob (v := .ref (He.ga K "Contradiction")) (by rfl) CN.g_Contradiction rfl) pa_nil))))))) pa_nil)))) (pss_cons ps_never pss_nil) pss_nil)
     (pss_cons (ps_if (pt_val (pe_callB (call_isEt CN.x_BadText.xi hz.zc hf) (by rfl) B.isinstance (by decide +kernel) (pa_cons (pv 1) (pa_cons (pe_tup (pa_cons (pe_glob (v := .ref (He.ga K "UnknownEntry")) (by rfl) CN.g_UnknownEntry rfl) (pa_cons (pe_glob (v := .ref (He.ga K "NothingToUndo")) (by rfl) CN.g_NothingToUndo rfl) (pa_cons (pe_glob (v := .ref (He.ga K "NothingToRedo")) (by rfl) CN.g_NothingToRedo rfl) pa_nil)))) pa_nil)))) (pss_cons ps_never pss_nil) pss_nil)
     (pss_cons (ps_ret (pe_and (pe_callB (call_isEd CN.x_BadText.xi hz.zc hf) (by rfl) B.isinstance (by decide +kernel) (pa_cons (pv 1) (pa_cons (pe_bltn (v := .ty "ValueError") (by rfl) CN.n_ValueError (by decide +kernel) rfl) pa_nil))) (pe_one (pe_callB (call_isEd CN.x_BadText.xi hz.zc hf) (by rfl) B.isinstance (by decide +kernel) (pa_cons (pv 1) (pa_cons (pe_glob (v := .ref (He.ga K "BadText")) (by rfl) CN.g_BadText rfl) pa_nil)))))) pss_nil))))))
     (pss_cons (ps_ret pe_bl) pss_nil), ?_⟩
   have c0 : Chg ([] : List Addr) H0 H0 := Chg.refl H0
   unfold Mi.m_l_by_base at hm
   refine q_try ?_
   refine q_drop ?_
   refine w_callS ?_
   refine w_args (va_cons (val_var rfl) va_nil) ?_
   obtain ⟨q2, hq2, hm⟩ := Mi.bnd hm
   refine ⟨d0, q2, rfl, hq2, fun y9 yh10 d11 H16 c15 nn12 => ?_, fun q13 hqv14 => fun v5 H4 F7 c3 r6 fr8  => ?_⟩
   ·
     subst yh10
     replace hm := Mi.tryL hm
     have c0 := c0.trans c15.none
     have c17 : Chg [] H16 (upd H16 d11 (.xd [(("line" : Str), (.int y9))])) := Chg.lay nn12 trivial
     have c0 := c0.trans c17.none
     have hxd : (upd H16 d11 (.xd [(("line" : Str), (.int y9))])) d11 = some (.xd [(("line" : Str), (.int y9))]) := upd_same
     refine w_exc CN.em_BadText_FleetError (fun ae18 na19 => ?_)
     refine st_eq (σ' := [some (.str (toS d0)), some (.ref ae18)]) rfl ?_
     refine q_isT (val_var rfl) hxd (va_cons val_c (va_cons val_c (va_cons val_c (va_cons val_c (va_cons val_c (va_cons val_c va_nil)))))) (cp_cons (cp_cons (cp_cons (cp_cons (cp_cons (cp_cons .nil)))))) CN.kt_BadText_InvalidChart_6 (Nat.le_of_ble_eq_true rfl) (fun H21 c20 hxd => ?_)
     have c0 := c0.trans c20.none
     refine w_fall ?_
     refine q_isT (val_var rfl) hxd (va_cons val_c (va_cons val_c (va_cons val_c (va_cons val_c (va_cons val_c (va_cons val_c va_nil)))))) (cp_cons (cp_cons (cp_cons (cp_cons (cp_cons (cp_cons .nil)))))) CN.kt_BadText_InvalidReceipt_6 (Nat.le_of_ble_eq_true rfl) (fun H23 c22 hxd => ?_)
     have c0 := c0.trans c22.none
     refine w_fall ?_
     refine q_isT (val_var rfl) hxd (va_cons val_c (va_cons val_c (va_cons val_c (va_cons val_c (va_cons val_c (va_cons val_c va_nil)))))) (cp_cons (cp_cons (cp_cons (cp_cons (cp_cons (cp_cons .nil)))))) CN.kt_BadText_NoWorld_6 (Nat.le_of_ble_eq_true rfl) (fun H25 c24 hxd => ?_)
     have c0 := c0.trans c24.none
     refine w_fall ?_
     refine q_isT (val_var rfl) hxd (va_cons val_c (va_cons val_c (va_cons val_c va_nil))) (cp_cons (cp_cons (cp_cons .nil))) CN.kt_BadText_UnknownEntry_3 (Nat.le_of_ble_eq_true rfl) (fun H27 c26 hxd => ?_)
     have c0 := c0.trans c26.none
     refine w_fall ?_
     refine q_ret ?_
     refine c_val (val_andV (val_isE (val_var rfl) hxd (.ty _) CN.ko_BadText_ValueError) (fun _ => (val_isE (val_var rfl) hxd (.own _) CN.ko_BadText_BadText))) ?_
     obtain rfl := Option.some.inj hm
     exact hQ _ c0 
   subst hqv14
   replace hm := Mi.tryR hm
   have n29 : ∀ a ∈ F7, H0 a = none := fun a h => c0.dom a (fr8 a h)
   have c0 := c0.trans c3.none
   refine w_fall ?_
   refine q_ret ?_
   refine c_val val_c ?_
   obtain rfl := Option.some.inj hm
   exact hQ _ c0 
abbrev N_law : List Str := ["_law_script", "_law_lot_here", "_law_lines", "_law_changed_here", "_law_text", "_law_due", "_law_told", "_law_deed_here"]
theorem sc_law : FnScope ["_law_script", "_law_lot_here", "_law_lines", "_law_changed_here", "_law_text", "_law_due", "_law_told", "_law_deed_here"] ["_law_script"] (defScope s_law) := ⟨rfl, rfl, rfl, by decide +kernel, rfl, by decide +kernel, by decide +kernel⟩
def sp_law (K : PySem.W.Frag) : Sp := fun vs H Q _ => ∃ (v0 : V) (d0 : (List Int)) (r : Bool), vs = [v0] ∧ yScr.rep K H [] v0 d0 ∧ Mi.m_law d0 = some r ∧ ∀ H', Chg ([]) H H' → Q (.bl r) H'
theorem ok_law (B : Bi mg) (CN : Cs w K mg) (D : Dfn K mg "law" s_law) (C_l_hand : Cal P w K mg "_law_hand" ["_law_script", "_law_k"] 1 (sp_l_hand K)) (C_l_pick : Cal P w K mg "_law_pick" ["_law_hand_here", "_law_size"] 1 (sp_l_pick K)) (C_l_alike : Cal P w K mg "_law_alike" ["_law_told", "_law_due"] 6 (sp_l_alike K)) (C_l_row : Cal P w K mg "_law_row" ["_law_deed_here"] 2 (sp_l_row K)) (C_l_lot : Cal P w K mg "_law_lot" ["_law_script", "_law_start", "_law_count"] 5 (sp_l_lot K)) (C_l_reading : Cal P w K mg "_law_reading" ["_law_text"] 5 (sp_l_reading K)) (C_l_text_changed : Cal P w K mg "_law_text_changed" ["_law_hand_here", "_law_lines"] 5 (sp_l_text_changed K)) (C_l_asked : Cal P w K mg "_law_asked" ["_law_text"] 7 (sp_l_asked K)) (C_l_by_base : Cal P w K mg "_law_by_base" ["_law_text"] 7 (sp_l_by_base K)) : Cal P w K mg "law" ["_law_script"] 8 (sp_law K) := by
 obtain ⟨f, fd, F, g⟩ := D.ex
 refine ⟨f, fd, g, F.kp, bindsF F (fun _ _ _ _ _ _ us hl => match us, hl with | [_], _ => rfl), fun base => F.ok sc_law (fun vs H Q E h => ?_) (fun cdv A outer s H0 vs Q E hr h => ?_)⟩
 · obtain ⟨v0, d0, r, rfl, r0, hm, hQ⟩ := h; rfl
 ·
   obtain ⟨v0, d0, r, rfl, r0, hm, hQ⟩ := h
   refine ⟨_, pss_cons (ps_set (i := 1) sc_law.nd rfl (.inl rfl) (pe_cc C_l_lot hr (pa_cons (pv 0) (pa_cons pe_int (pa_cons (pe_cc C_l_pick hr (pa_cons (pe_cc C_l_hand hr (pa_cons (pv 0) (pa_cons pe_int pa_nil))) (pa_cons pe_int pa_nil))) pa_nil)))))
     (pss_cons (ps_setLc (i := 2) (own := [("_law_deed_here", 7)]) rfl sc_law.nd rfl rfl (sw_true rfl rfl rfl (by decide +kernel)) (pi_list (pv 1)) (blkOk_by (own := [("_law_deed_here", 7)]) (N := N_law) (sc := defScope s_law) (by decide +kernel)) (fun _ _ _ _ _ => (pg_name (i := 7) sc_law.nd rfl (.inl rfl))) (fun _ _ _ _ _ => pts_nil) (fun _ _ _ _ _ => (pe_cc C_l_row hr (pa_cons (pv 7) pa_nil))))
     (pss_cons (ps_set (i := 3) sc_law.nd rfl (.inl rfl) (pe_cc C_l_text_changed hr (pa_cons (pe_cc C_l_hand hr (pa_cons (pv 0) (pa_cons pe_int pa_nil))) (pa_cons (pv 2) pa_nil))))
     (pss_cons (ps_for PassesOwn.never rfl (pi_list (pe_lst (pa_cons (pv 3) (pa_cons (pe_joinQ (K := K) pe_str (pv 2)) (pa_cons (pv 3) pa_nil))))) (pg_name (i := 4) sc_law.nd rfl (.inl rfl)) (pss_cons (ps_set (i := 5) sc_law.nd rfl (.inl rfl) (pe_cc C_l_reading hr (pa_cons (pv 4) pa_nil)))
     (pss_cons (ps_set (i := 6) sc_law.nd rfl (.inl rfl) (pe_cc C_l_asked hr (pa_cons (pv 4) pa_nil)))
     (pss_cons (ps_if (pt_cmpR op_gt (pe_ix (ix_t (K := K)) (pv 5) pe_int (fun _ _ => rfl)) pe_int (nomark _)) (pss_cons (ps_if (PW.pt (pw_or (pt_not (pt_val (pe_cc C_l_alike hr (pa_cons (pv 6) (pa_cons (pe_tup (pa_cons pe_bl (pa_cons (pe_ix (ix_t (K := K)) (pv 5) pe_int (fun _ _ => rfl)) pa_nil))) pa_nil))))) (pw_or1 (pt_not (pt_val (pe_cc C_l_by_base hr (pa_cons (pv 4) pa_nil))))))) (pss_cons (ps_ret pe_bl) pss_nil) (pss_nil))
     (pss_nil)) (pss_cons (ps_if (pt_not (pt_val (pe_cc C_l_alike hr (pa_cons (pv 6) (pa_cons (pe_tup (pa_cons pe_bl (pa_cons (pe_ix (ix_t (K := K)) (pv 5) pe_int (fun _ _ => rfl)) pa_nil))) pa_nil))))) (pss_cons (ps_ret pe_bl) pss_nil) (pss_cons (ps_expr (pe_bm PySem.F.plainAttrs_list PySem.F.slot_list_append PySem.F.type_list_append mt_append (pe_ix (ix_t (K := K)) (pv 6) pe_int (fun _ _ => rfl)) (pa_cons (pe_tup (pa_cons pe_str (pa_cons pe_int pa_nil))) pa_nil)))
     (pss_nil)))
     (pss_nil)))
     (pss_nil)))))
     (pss_cons (ps_ret pe_bl) pss_nil)))), ?_⟩
   have c0 : Chg ([] : List Addr) H0 H0 := Chg.refl H0
   unfold Mi.m_law at hm
   refine q_asg ?_
   refine w_call ?_
   refine w_cons ?_
   refine c_val (val_var rfl) ?_
   refine w_cons ?_
   refine c_val val_c ?_
   refine w_cons ?_
   refine w_call ?_
   refine w_cons ?_
   refine w_call ?_
   refine w_args (va_cons (val_var rfl) (va_cons val_c va_nil)) ?_
   obtain ⟨q2, hq2, hm⟩ := Mi.bnd hm
   refine ⟨v0, d0, (0 : Int), q2, rfl, r0, hq2, fun v5 H4 F7 c3 r6 fr8  => ?_⟩
   have n9 : ∀ a ∈ F7, H0 a = none := fun a h => c0.dom a (fr8 a h)
   have r0 := Ty.fz r0 c3
   have c0 := c0.trans c3.none
   refine w_cons ?_
   refine c_val val_c ?_
   refine w_nil ?_
   obtain ⟨q10, hq10, hm⟩ := Mi.bnd hm
   refine ⟨v5, F7, q2, (13 : Int), q10, rfl, r6, hq10, fun H12 c11 r6 => ?_⟩
   have r0 := Ty.fz r0 c11
   have c0 := c0.join c11 (fun a h => .inr (n9 a h))
   refine w_nil ?_
   obtain ⟨q13, hq13, hm⟩ := Mi.bnd hm
   refine ⟨v0, d0, (1 : Int), q10.1, q13, rfl, r0, hq13, fun v16 H15 F18 c14 r17 fr19  => ?_⟩
   have n20 : ∀ a ∈ F18, H0 a = none := fun a h => c0.dom a (fr19 a h)
   have r0 := Ty.fz r0 c14
   have c0 := c0.trans c14.none
   refine g_name (σ' := [some v0, some v16, none, none, none, none, none, none]) rfl ?_
   refine q_asg ?_
   refine w_lc ?_
   refine w_iList ?_
   refine c_val (val_var rfl) ?_
   obtain ⟨e21, he21, hm⟩ := Mi.bnd hm
   refine kc_lst (K := K) (τ := yStr) r17 (fun D23 i H' => ∃ (s22 : (List (List Nat))), Chg ([] : List Addr) H0 H' ∧ yScr.rep K H' [] v0 d0 ∧ (yLst (yTupL (ySum yInt (ySum yStr (ySum yBool (ySum (yTupL yInt) (yTupL yBool))))))).rep K H' F18 v16 q13 ∧ (yLst yStr).rep K H' [D23] (.ref D23) s22 ∧ Dj F18 [D23] ∧ (∀ a ∈ [D23], H0 a = none) ∧ Mi.forN (Mi.m_law_b1) s22 (List.drop i q13) = some e21) (fun D23 H30 np29 c28 r24 => ⟨([] : (List (List Nat))), c0.trans c28.none, (Ty.fz r0 c28), (Ty.ex r17 c28), r24, Ty.nin r17 np29, one_fresh (c0.dom D23 np29), he21⟩) (fun D23 i H' hp => by obtain ⟨s22, c0, r0, r17, r24, d25, n27, _⟩ := hp; exact r17) (fun D23 i33 x32 u35 H34 hx31 r36 hp => ?_) (fun D23 H' np29 hp => ?_)
   ·
     obtain ⟨s22, c0, r0, r17, r24, d25, n27, hle21⟩ := hp
     obtain ⟨_, hbe21, hle21⟩ := Mi.forN_go hle21 hx31
     unfold Mi.m_law_b1 at hbe21
     refine g_name (σ' := [some v0, some v16, none, none, none, none, none, some u35]) rfl ?_
     refine ⟨rfl, ?_⟩
     refine w_yes ?_
     refine iteT ?_
     refine w_call ?_
     refine w_args (va_cons (val_var rfl) va_nil) ?_
     obtain ⟨q41, hq41, hbe21⟩ := Mi.bnd hbe21
     refine ⟨u35, x32, q41, rfl, r36, hq41, fun H43 c42  => ?_⟩
     have r0 := Ty.fz r0 c42
     have r17 := Ty.ex r17 c42
     have r36 := Ty.fz r36 c42
     have r24 := Ty.ex r24 c42
     have c0 := c0.trans c42.none
     obtain ⟨x44, hx44, hbe21⟩ := Mi.bnd hbe21
     refine e_app r24 yStr_i hx44 fun H46 c45 r24 => ?_
     have r0 := Ty.fz r0 c45
     have r17 := Ty.chg r17 c45 d25
     have r36 := Ty.fz r36 c45
     have c0 := c0.join c45 (fun a h => .inr (n27 a h))
     obtain rfl := Option.some.inj hbe21
     exact ⟨x44, c0, r0, r17, r24, d25, n27, hle21⟩
   obtain ⟨s22, c0, r0, r17, r24, d25, n27, hle21⟩ := hp
   obtain rfl := Mi.forN_end hle21
   refine g_name (σ' := [some v0, some v16, some (.ref D23), none, none, none, none, none]) rfl ?_
   refine q_asg ?_
   refine w_call ?_
   refine w_cons ?_
   refine w_call ?_
   refine w_args (va_cons (val_var rfl) (va_cons val_c va_nil)) ?_
   obtain ⟨q47, hq47, hm⟩ := Mi.bnd hm
   refine ⟨v0, d0, (13 : Int), q47, rfl, r0, hq47, fun v50 H49 F52 c48 r51 fr53  => ?_⟩
   have d54 : Dj F18 F52 := Ty.fresh r17 fr53
   have d55 : Dj [D23] F52 := Ty.fresh r24 fr53
   have n56 : ∀ a ∈ F52, H0 a = none := fun a h => c0.dom a (fr53 a h)
   have r0 := Ty.fz r0 c48
   have r17 := Ty.ex r17 c48
   have r24 := Ty.ex r24 c48
   have c0 := c0.trans c48.none
   refine w_cons ?_
   refine c_val (val_var rfl) ?_
   refine w_nil ?_
   obtain ⟨q57, hq57, hm⟩ := Mi.bnd hm
   refine ⟨v50, F52, q47, (.ref D23), [D23], s22, q57, rfl, r51, r24, d55.symm, hq57, fun H59 c58 r51 => ?_⟩
   have r0 := Ty.fz r0 c58
   have r17 := Ty.chg r17 c58 d54
   have r24 := Ty.chg r24 c58 d55
   have c0 := c0.join c58 (fun a h => .inr (n56 a h))
   refine g_name (σ' := [some v0, some v16, some (.ref D23), some (.str (toS q57.1)), none, none, none, none]) rfl ?_
   refine q_for ?_
   refine w_iList ?_
   refine w_lst ?_
   refine w_cons ?_
   refine c_val (val_var rfl) ?_
   refine w_cons ?_
   refine w_m1 ?_
   refine c_val (val_cS (a := ([10] : List Nat)) (by decide +kernel)) ?_
   refine ⟨⟨_, rfl⟩, ?_⟩
   refine c_val (val_var rfl) ?_
   obtain ⟨x60, hx60, hm⟩ := Mi.bnd hm
   refine w_joinL r24 hx60 ?_
   refine w_cons ?_
   refine c_val (val_var rfl) ?_
   refine w_nil ?_
   refine e_lst (K := K) (τ := yStr) (by exact Nat.le_of_ble_eq_true rfl) (.cons yStr_i (.cons yStr_i (.cons yStr_i .nil))) fun p61 H65 np64 c62 r63 => ?_
   have d66 : Dj F18 [p61] := Ty.nin r17 np64
   have d67 : Dj [D23] [p61] := Ty.nin r24 np64
   have n68 : ∀ a ∈ [p61], H0 a = none := one_fresh (c0.dom p61 np64)
   have r0 := Ty.fz r0 c62
   have r17 := Ty.ex r17 c62
   have r24 := Ty.ex r24 c62
   have c0 := c0.trans c62.none
   obtain ⟨e69, he69, hm⟩ := Mi.bnd hm
   refine l_lst r63 (fun i σ' H' => ∃ (s70 : Unit) (y71 : Option V) (y72 : Option V) (y73 : Option V), σ' = [some v0, some v16, some (.ref D23), some (.str (toS q57.1)), y71, y72, y73, none] ∧ Chg ([] : List Addr) H0 H' ∧ yScr.rep K H' [] v0 d0 ∧ (yLst (yTupL (ySum yInt (ySum yStr (ySum yBool (ySum (yTupL yInt) (yTupL yBool))))))).rep K H' F18 v16 q13 ∧ (yLst yStr).rep K H' [D23] (.ref D23) s22 ∧ (yLst yStr).rep K H' [p61] (.ref p61) [q57.1, x60, q57.1] ∧ Mi.forR (Mi.m_law_b2) s70 (List.drop i [q57.1, x60, q57.1]) = some e69) ⟨(), none, none, none, rfl, c0, r0, r17, r24, r63, he69⟩ (fun i σ' H' hp => by obtain ⟨s70, y71, y72, y73, rfl, c0, r0, r17, r24, r63, _⟩ := hp; exact r63) (fun i76 x75 u77 σ' H' hx74 r78 hp => ?_) (fun σ' H' hp => ?_)
   ·
     obtain ⟨s70, y71, y72, y73, rfl, c0, r0, r17, r24, r63, hle69⟩ := hp
     obtain ⟨o79, hbe69, hore69⟩ := Mi.forR_go hle69 hx74
     unfold Mi.m_law_b2 at hbe69
     obtain ⟨_, rfl⟩ := r78
     refine g_name (σ' := [some v0, some v16, some (.ref D23), some (.str (toS q57.1)), some (.str (toS x75)), y72, y73, none]) rfl ?_
     refine q_asg ?_
     refine w_call ?_
     refine w_args (va_cons (val_var rfl) va_nil) ?_
     obtain ⟨q80, hq80, hbe69⟩ := Mi.bnd hbe69
     refine ⟨x75, q80, rfl, hq80, fun v83 H82 F85 c81 r84 fr86  => ?_⟩
     have d87 : Dj F18 F85 := Ty.fresh r17 fr86
     have d88 : Dj [D23] F85 := Ty.fresh r24 fr86
     have d89 : Dj [p61] F85 := Ty.fresh r63 fr86
     have n90 : ∀ a ∈ F85, H0 a = none := fun a h => c0.dom a (fr86 a h)
     have r0 := Ty.fz r0 c81
     have r17 := Ty.ex r17 c81
     have r24 := Ty.ex r24 c81
     have r63 := Ty.ex r63 c81
     have c0 := c0.trans c81.none
     refine g_name (σ' := [some v0, some v16, some (.ref D23), some (.str (toS q57.1)), some (.str (toS x75)), some v83, y73, none]) rfl ?_
     refine q_asg ?_
     refine w_call ?_
     refine w_args (va_cons (val_var rfl) va_nil) ?_
     obtain ⟨q91, hq91, hbe69⟩ := Mi.bnd hbe69
     refine ⟨x75, q91, rfl, hq91, fun v94 H93 F96 c92 r95 fr97  => ?_⟩
     have d98 : Dj F18 F96 := Ty.fresh r17 fr97
     have d99 : Dj [D23] F96 := Ty.fresh r24 fr97
     have d100 : Dj F85 F96 := Ty.fresh r84 fr97
     have d101 : Dj [p61] F96 := Ty.fresh r63 fr97
     have n102 : ∀ a ∈ F96, H0 a = none := fun a h => c0.dom a (fr97 a h)
     have r0 := Ty.fz r0 c92
     have r17 := Ty.ex r17 c92
     have r24 := Ty.ex r24 c92
     have r84 := Ty.ex r84 c92
     have r63 := Ty.ex r63 c92
     have c0 := c0.trans c92.none
     refine g_name (σ' := [some v0, some v16, some (.ref D23), some (.str (toS q57.1)), some (.str (toS x75)), some v83, some v94, none]) rfl ?_
     obtain ⟨s103, hs103, hbe69⟩ := Mi.bnd hbe69
     refine s_join (R := fun σ' H' => ∃ (s104 : Unit), s103 = .inr s104 ∧ σ' = [some v0, some v16, some (.ref D23), some (.str (toS q57.1)), some (.str (toS x75)), some v83, some v94, none] ∧ Chg ([] : List Addr) H0 H' ∧ yScr.rep K H' [] v0 d0 ∧ (yLst (yTupL (ySum yInt (ySum yStr (ySum yBool (ySum (yTupL yInt) (yTupL yBool))))))).rep K H' F18 v16 q13 ∧ (yLst yStr).rep K H' [D23] (.ref D23) s22 ∧ (yLst yStr).rep K H' [p61] (.ref p61) [q57.1, x60, q57.1]) (fun nx kx => ?_) (fun σ' H' hj => ?_)
     ·
       obtain ⟨u105, F106, r107, su108, kx109, ku110⟩ := itm_tup (n := 0) at0 r84
       obtain ⟨rfl, rfl⟩ := r107
       refine s_if (ans_t (val_gt (ku110 (val_var rfl) val_c) val_c)) (fun hb => ?_) (fun hb => ?_)
       ·
         replace hs103 := Mi.ifT hb hs103
         obtain ⟨x111, hx111, hs103⟩ := Mi.bnd hs103
         obtain ⟨rfl, r112⟩ := pr_sumLf r95 hx111
         refine q_ifS ?_
         obtain ⟨b113, hb113, hs103⟩ := Mi.bnd hs103
         refine j_tt b113 (R := fun H' => Chg ([] : List Addr) H0 H' ∧ yScr.rep K H' [] v0 d0 ∧ (yLst (yTupL (ySum yInt (ySum yStr (ySum yBool (ySum (yTupL yInt) (yTupL yBool))))))).rep K H' F18 v16 q13 ∧ (yLst yStr).rep K H' [D23] (.ref D23) s22 ∧ (yTup (sCons yInt (sOne (yOpt (yLst (yTupL (ySum yInt (ySum yStr (ySum yBool (ySum (yTupL yInt) (yTupL yBool))))))))))).rep K H' F85 v83 q80 ∧ (yTup (sCons yBool (sOne yInt))).rep K H' [] v94 x111 ∧ (yLst yStr).rep K H' [p61] (.ref p61) [q57.1, x60, q57.1]) (fun Q' kq => ?_) (fun H' hj => ?_)
         ·
           refine w_or ?_
           refine w_not ?_
           refine w_B ?_
           refine w_call ?_
           refine w_cons ?_
           refine c_val (val_var rfl) ?_
           refine w_cons ?_
           refine w_tup ?_
           obtain ⟨u114, F115, r116, su117, kx118, ku119⟩ := itm_tup (n := 0) at0 r84
           obtain ⟨rfl, rfl⟩ := r116
           refine w_args (va_cons val_c (va_cons (ku119 (val_var rfl) val_c) va_nil)) ?_
           refine e_tup (K := K) (ty := (sCons yBool (sOne yInt))) (F := []) (d := (true, q80.1)) (by exact Nat.le_of_ble_eq_true rfl) ⟨_, _, _, _, rfl, rfl, yBool_i, ⟨_, rfl, yInt_i⟩⟩ fun p120 H124 np123 c121 r122  => ?_
           have r0 := Ty.fz r0 c121
           have r17 := Ty.ex r17 c121
           have r24 := Ty.ex r24 c121
           have r84 := Ty.ex r84 c121
           have r112 := Ty.fz r112 c121
           have r63 := Ty.ex r63 c121
           have c0 := c0.trans c121.none
           refine w_nil ?_
           obtain ⟨q125, hq125, hb113⟩ := Mi.bnd hb113
           refine Or.inl ⟨v94, x111, (.ref p120), (true, q80.1), q125, rfl, r112, r122, hq125, fun H127 c126  => ?_⟩
           have r0 := Ty.fz r0 c126
           have r17 := Ty.ex r17 c126
           have r24 := Ty.ex r24 c126
           have r84 := Ty.ex r84 c126
           have r112 := Ty.fz r112 c126
           have r63 := Ty.ex r63 c126
           have c0 := c0.trans c126.none
           refine ⟨_, rfl, ?_⟩
           refine c_if (fun hb => ?_) (fun hb => ?_)
           ·
             replace hb113 := Mi.ifT hb hb113
             obtain rfl := Option.some.inj hb113
             exact kq _ ⟨c0, r0, r17, r24, r84, r112, r63⟩
           replace hb113 := Mi.ifF hb hb113
           refine w_not ?_
           refine w_B ?_
           refine w_call ?_
           refine w_args (va_cons (val_var rfl) va_nil) ?_
           obtain ⟨q128, hq128, hb113⟩ := Mi.bnd hb113
           refine ⟨x75, q128, rfl, hq128, fun H130 c129  => ?_⟩
           have r0 := Ty.fz r0 c129
           have r17 := Ty.ex r17 c129
           have r24 := Ty.ex r24 c129
           have r84 := Ty.ex r84 c129
           have r112 := Ty.fz r112 c129
           have r63 := Ty.ex r63 c129
           have c0 := c0.trans c129.none
           refine ⟨_, rfl, ?_⟩
           obtain rfl := Option.some.inj hb113
           exact kq _ ⟨c0, r0, r17, r24, r84, r112, r63⟩
         obtain ⟨c0, r0, r17, r24, r84, r112, r63⟩ := hj
         refine c_if (fun hb => ?_) (fun hb => ?_)
         ·
           replace hs103 := Mi.ifT hb hs103
           refine q_ret ?_
           refine c_val val_c ?_
           obtain rfl := Option.some.inj hs103
           obtain rfl := Option.some.inj (Mi.orL_inl hbe69)
           obtain rfl := Mi.or_inl hore69
           obtain rfl := Option.some.inj (Mi.orR_inl hm)
           exact hQ _ c0 
         replace hs103 := Mi.ifF hb hs103
         refine w_fall ?_
         refine w_nextJ ?_
         obtain rfl := Option.some.inj hs103
         exact kx _ _ ⟨_, rfl, rfl, c0, r0, r17, r24, r63⟩
       ·
         replace hs103 := Mi.ifF hb hs103
         obtain ⟨x131, hx131, hs103⟩ := Mi.bnd hs103
         have r132 := pr_sumR r95 hx131
         obtain ⟨x133, hx133, hs103⟩ := Mi.bnd hs103
         have r134 := pr_sumO r84 hx133
         refine q_ifS ?_
         refine w_not ?_
         refine w_B ?_
         refine w_call ?_
         refine w_cons ?_
         refine c_val (val_var rfl) ?_
         refine w_cons ?_
         refine w_tup ?_
         obtain ⟨u135, F136, r137, su138, kx139, ku140⟩ := itm_tup (n := 1) (atS at1) r134
         have d141 : Dj F136 F18 := Dj.sub (d87.symm) su138
         have d142 : Dj F136 [D23] := Dj.sub (d88.symm) su138
         have d143 : Dj F136 F96 := Dj.sub (d100) su138
         have d144 : Dj F136 [p61] := Dj.sub (d89.symm) su138
         have n145 : ∀ a ∈ F136, H0 a = none := fun a h => n90 a (su138 a h)
         refine w_args (va_cons val_c (va_cons (ku140 (val_var rfl) val_c) va_nil)) ?_
         refine e_tup (K := K) (ty := (sCons yBool (sOne (yLst (yTupL (ySum yInt (ySum yStr (ySum yBool (ySum (yTupL yInt) (yTupL yBool)))))))))) (F := ([] ++ F136)) (d := (false, x133.2)) (by exact Nat.le_of_ble_eq_true rfl) ⟨_, _, _, _, rfl, rfl, yBool_i, ⟨_, rfl, r137⟩⟩ fun p146 H150 np149 c147 r148  => ?_
         have r0 := Ty.fz r0 c147
         have r17 := Ty.ex r17 c147
         have r24 := Ty.ex r24 c147
         have r134 := Ty.ex r134 c147
         have r132 := Ty.ex r132 c147
         have r63 := Ty.ex r63 c147
         have r137 := Ty.ex r137 c147
         have c0 := c0.trans c147.none
         have d151 : Dj ([] ++ F136) F18 := (Dj.app (Dj.nil) (d141))
         have d152 : Dj ([] ++ F136) [D23] := (Dj.app (Dj.nil) (d142))
         have d153 : Dj ([] ++ F136) F96 := (Dj.app (Dj.nil) (d143))
         have d154 : Dj ([] ++ F136) [p61] := (Dj.app (Dj.nil) (d144))
         refine w_nil ?_
         obtain ⟨q155, hq155, hs103⟩ := Mi.bnd hs103
         refine Or.inr (⟨v94, F96, x131, (.ref p146), ([] ++ F136), (false, x133.2), q155, rfl, r132, r148, hq155, fun H157 c156  => ?_⟩)
         have r0 := Ty.fz r0 c156
         have r17 := Ty.ex r17 c156
         have r24 := Ty.ex r24 c156
         have r134 := Ty.ex r134 c156
         have r132 := Ty.ex r132 c156
         have r63 := Ty.ex r63 c156
         have c0 := c0.trans c156.none
         refine ⟨_, rfl, ?_⟩
         refine c_if (fun hb => ?_) (fun hb => ?_)
         ·
           replace hs103 := Mi.ifT hb hs103
           refine q_ret ?_
           refine c_val val_c ?_
           obtain rfl := Option.some.inj hs103
           obtain rfl := Option.some.inj (Mi.orL_inl hbe69)
           obtain rfl := Mi.or_inl hore69
           obtain rfl := Option.some.inj (Mi.orR_inl hm)
           exact hQ _ c0 
         replace hs103 := Mi.ifF hb hs103
         obtain ⟨u158, F159, r160, su161, kx162, ku163⟩ := itm_tup (n := 1) (atS at1) r132
         have d164 : Dj F159 F18 := Dj.sub (d98.symm) su161
         have d165 : Dj F159 [D23] := Dj.sub (d99.symm) su161
         have d166 : Dj F159 [p61] := Dj.sub (d101.symm) su161
         have n167 : ∀ a ∈ F159, H0 a = none := fun a h => n102 a (su161 a h)
         refine q_drop (w_bm (c_val (ku163 (val_var rfl) val_c) ⟨tyv_lst r160, ?_⟩))
         refine w_cons ?_
         refine w_tup ?_
         refine w_args (va_cons (val_cS (a := ([119, 105, 116, 104, 100, 114, 97, 119] : List Nat)) (by decide +kernel)) (va_cons val_c va_nil)) ?_
         refine e_tupl (K := K) (τ := (ySum yInt (ySum yStr (ySum yBool (ySum (yTupL yInt) (yTupL yBool)))))) (xs := ([(.inr (.inl ([119, 105, 116, 104, 100, 114, 97, 119] : List Nat))), (.inl (0 : Int))] : (List (Int ⊕ (List Nat) ⊕ Bool ⊕ (List Int) ⊕ (List Bool))))) (by exact Nat.le_of_ble_eq_true rfl) (.cons (sum_r (sum_l yStr_i)) (.cons (sum_l yInt_i) .nil)) fun p168 H172 np171 c169 r170 => ?_
         have r0 := Ty.fz r0 c169
         have r17 := Ty.ex r17 c169
         have r24 := Ty.ex r24 c169
         have r63 := Ty.ex r63 c169
         have r160 := Ty.ex r160 c169
         have c0 := c0.trans c169.none
         refine w_nil ?_
         obtain ⟨x173, hx173, hs103⟩ := Mi.bnd hs103
         refine m_app r160 r170 hx173 fun H175 c174 r160 => ?_
         have r0 := Ty.fz r0 c174
         have r17 := Ty.chg r17 c174 d164.symm
         have r24 := Ty.chg r24 c174 d165.symm
         have r63 := Ty.chg r63 c174 d166.symm
         have c0 := c0.join c174 (fun a h => .inr (n167 a h))
         refine w_fall ?_
         refine w_nextJ ?_
         obtain rfl := Option.some.inj hs103
         exact kx _ _ ⟨_, rfl, rfl, c0, r0, r17, r24, r63⟩
     obtain ⟨s104, rfl, rfl, c0, r0, r17, r24, r63⟩ := hj
     replace hbe69 := Mi.orL_inr hbe69
     refine w_nextJ ?_
     obtain rfl := Option.some.inj hbe69
     replace hore69 := Mi.or_inr hore69
     exact ⟨_, (some (.str (toS x75))), (some v83), (some v94), rfl, c0, r0, r17, r24, r63, hore69⟩
   obtain ⟨s70, y71, y72, y73, rfl, c0, r0, r17, r24, r63, hle69⟩ := hp
   obtain rfl := Mi.forR_end hle69
   replace hm := Mi.orR_inr hm
   refine q_ret ?_
   refine c_val val_c ?_
   obtain rfl := Option.some.inj hm
   exact hQ _ c0 
end
end G
set_option maxHeartbeats 0
namespace G
open PySem PySem.Spec PyProof.Rows L2
theorem fun_of {K : PySem.W.Frag} {x q : Str} {st : Stmt} {f : Addr} {fd : FuncData} (F : FunD K x q (defArgs st) (defBody st) (defScope st) [] [] f fd) : Fun K x q st f fd := by
 obtain ⟨oc, od, dV, kV, doc, pm, an, cdv, ct, osl, e, lk, hcd, hd, _⟩ := F.ex
 rcases hd with ⟨_, rfl⟩ | ⟨z, _⟩
 · exact ⟨⟨oc, od, kV, doc, pm, an, cdv, ct, osl, e, lk, hcd⟩, F.kp⟩
 · exact absurd rfl z
theorem dfn_of {K : PySem.W.Frag} {h : Heap} {mg : Str → Option Value} (X : K.In h) (G : h.Ns mainGlobals mg) (c : He.SaysD faL fnL K) (i j k : Nat) (x : Str) (hi : fnL[i]? = some (dOf x k)) (hj : faL[j]? = some (.glo x)) : Dfn K mg x (topS k) := by
 obtain ⟨fd, F⟩ := c.def_ i hi
 exact ⟨⟨_, fd, fun_of F, He.glo_ok X G (c.fact j hj)⟩⟩
theorem facts {P : Program} {w : World} {K : PySem.W.Frag} {h : Heap} {mg : Str → Option Value} (X : K.In h) (G : h.Ns mainGlobals mg) (cT : He.SaysT faL fnL tsL w K) (cx : SaysX faL fnL exL fileS erL K) (hp1 : (P.main.scope.names.lookup ("super" : Str)).isSome = false) (hp2 : (P.main.file : Str) = fileS) {fa : Addr} (hfa : mg ("law" : Str) = some (.ref fa)) :
   ∃ fd : FuncData, (∀ (s : Shared) (v : Value), BindsTo s fd ⟨[v], []⟩ [("_law_script", v)]) ∧ ∀ base : Heap, K.In base → base.Ns mainGlobals mg → FnOk P w K mg base CX0 8 fa fd ["_law_script"] (sp_law K) := by
 have c := cx.d
 have ce := cx.e
 have c := cT.d
 have B : Bi mg := ⟨He.free_ok X G (c.fact 36 rfl), He.free_ok X G (c.fact 37 rfl), He.free_ok X G (c.fact 38 rfl), He.free_ok X G (c.fact 39 rfl), He.free_ok X G (c.fact 40 rfl), He.free_ok X G (c.fact 41 rfl), He.free_ok X G (c.fact 42 rfl), He.free_ok X G (c.fact 43 rfl), He.free_ok X G (c.fact 44 rfl), He.free_ok X G (c.fact 45 rfl), He.free_ok X G (c.fact 46 rfl), He.free_ok X G (c.fact 47 rfl), He.free_ok X G (c.fact 48 rfl), He.free_ok X G (c.fact 49 rfl), He.free_ok X G (c.fact 50 rfl), He.free_ok X G (c.fact 51 rfl), He.free_ok X G (c.fact 52 rfl), He.free_ok X G (c.fact 53 rfl)⟩
 obtain ⟨ce10_, ce10⟩ := He.ba (show (_ && _) = true from ce)
 obtain ⟨ce9_, ce9⟩ := He.ba (show (_ && _) = true from ce10_)
 obtain ⟨ce8_, ce8⟩ := He.ba (show (_ && _) = true from ce9_)
 obtain ⟨ce7_, ce7⟩ := He.ba (show (_ && _) = true from ce8_)
 obtain ⟨ce6_, ce6⟩ := He.ba (show (_ && _) = true from ce7_)
 obtain ⟨ce5_, ce5⟩ := He.ba (show (_ && _) = true from ce6_)
 obtain ⟨ce4_, ce4⟩ := He.ba (show (_ && _) = true from ce5_)
 obtain ⟨ce3_, ce3⟩ := He.ba (show (_ && _) = true from ce4_)
 obtain ⟨ce2_, ce2⟩ := He.ba (show (_ && _) = true from ce3_)
 obtain ⟨ce1_, ce1⟩ := He.ba (show (_ && _) = true from ce2_)
 have ce0 := ce1_
 obtain ⟨T_BadText, XK_BadText⟩ := err_of_line (P := P) (d := ⟨"BadText", "BadText.__init__", inClass (topS 16) 0⟩) X G (cx.err 0 rfl).1 (cx.err 0 rfl).2 (c.fact 64 rfl) (c.fact 63 rfl) (c.fact 53 rfl) (of_decide_eq_true ce0) hp1 hp2 ⟨_, _, _, _, _, _, _, _, _, _, _, _, _, _, _, _, _, rfl, rfl, rfl, by decide +kernel, fun L f cda cc => ⟨_, rfl⟩⟩
 have CN : Cs w K mg := ⟨He.str_ok X G (c.fact 54 rfl), He.int_ok X G (c.fact 55 rfl), He.int_ok X G (c.fact 56 rfl), He.int_ok X G (c.fact 57 rfl), He.int_ok X G (c.fact 58 rfl), He.int_ok X G (c.fact 59 rfl), He.int_ok X G (c.fact 60 rfl), He.int_ok X G (c.fact 61 rfl), He.int_ok X G (c.fact 62 rfl), of_decide_eq_true ce0, He.glo_ok X G (c.fact 64 rfl), of_decide_eq_true ce1, XK_BadText, He.glo_ok X G (c.fact 65 rfl), of_decide_eq_true ce2, of_decide_eq_true ce3, He.glo_ok X G (c.fact 66 rfl), He.glo_ok X G (c.fact 67 rfl), He.glo_ok X G (c.fact 68 rfl), He.glo_ok X G (c.fact 69 rfl), He.glo_ok X G (c.fact 70 rfl), He.glo_ok X G (c.fact 71 rfl), of_decide_eq_true ce4, He.glo_ok X G (c.fact 72 rfl), He.glo_ok X G (c.fact 73 rfl), He.glo_ok X G (c.fact 74 rfl), He.glo_ok X G (c.fact 75 rfl), He.glo_ok X G (c.fact 76 rfl), He.glo_ok X G (c.fact 77 rfl), of_decide_eq_true ce5, He.glo_ok X G (c.fact 78 rfl), He.glo_ok X G (c.fact 79 rfl), He.glo_ok X G (c.fact 80 rfl), He.glo_ok X G (c.fact 81 rfl), He.glo_ok X G (c.fact 82 rfl), He.glo_ok X G (c.fact 83 rfl), of_decide_eq_true ce6, He.glo_ok X G (c.fact 84 rfl), He.glo_ok X G (c.fact 85 rfl), He.glo_ok X G (c.fact 86 rfl), of_decide_eq_true ce7, He.free_ok X G (c.fact 87 rfl), of_decide_eq_true ce8, ⟨_, He.glo_ok X G (c.fact 88 rfl), kdb_of (says_tab cT 0 rfl) ce9⟩, ⟨_, He.glo_ok X G (c.fact 89 rfl), kdb_of (says_tab cT 1 rfl) ce10⟩⟩
 have C_read_number : Cal P w K mg "read_number" ["text", "figures"] 1 (sp_read_number K) := ok_read_number B CN (dfn_of X G c 0 0 26 "read_number" rfl rfl)
 have C_read_limited : Cal P w K mg "read_limited" ["text", "figures", "most"] 2 (sp_read_limited K) := ok_read_limited B CN (dfn_of X G c 1 1 27 "read_limited" rfl rfl) C_read_number
 have C_read_zone : Cal P w K mg "read_zone" ["text"] 3 (sp_read_zone K) := ok_read_zone B CN (dfn_of X G c 2 2 28 "read_zone" rfl rfl) C_read_limited
 have C_split_words : Cal P w K mg "split_words" ["line"] 1 (sp_split_words K) := ok_split_words B CN (dfn_of X G c 3 3 29 "split_words" rfl rfl)
 have C_text_lines : Cal P w K mg "text_lines" ["text"] 1 (sp_text_lines K) := ok_text_lines B CN (dfn_of X G c 4 4 42 "text_lines" rfl rfl)
 have C_read_report : Cal P w K mg "read_report" ["ship", "hour", "side", "zone", "weight"] 4 (sp_read_report K) := ok_read_report B CN (dfn_of X G c 5 5 44 "read_report" rfl rfl) C_read_limited C_read_zone
 have C_read_withdrawal : Cal P w K mg "read_withdrawal" ["word"] 3 (sp_read_withdrawal K) := ok_read_withdrawal B CN (dfn_of X G c 6 6 46 "read_withdrawal" rfl rfl) C_read_limited
 have C_read_flags : Cal P w K mg "read_flags" ["word"] 1 (sp_read_flags K) := ok_read_flags B CN (dfn_of X G c 7 7 47 "read_flags" rfl rfl)
 have C_read_receipt : Cal P w K mg "read_receipt" ["letter", "event", "hour", "signs"] 3 (sp_read_receipt K) := ok_read_receipt B CN (dfn_of X G c 8 8 45 "read_receipt" rfl rfl) C_read_limited C_read_flags
 have C_read_deed : Cal P w K mg "read_deed" ["line"] 5 (sp_read_deed K) := ok_read_deed B CN (dfn_of X G c 9 9 43 "read_deed" rfl rfl) C_split_words C_read_report C_read_withdrawal C_read_receipt
 have C_parse_deeds : Cal P w K mg "parse_deeds" ["text"] 6 (sp_parse_deeds K) := ok_parse_deeds B CN (dfn_of X G c 10 10 41 "parse_deeds" rfl rfl) C_text_lines C_read_deed
 have C_parse_deeds_x : CalXN P w K mg "parse_deeds" ["text"] 6 (sp_parse_deeds_x K) := ok_parse_deeds_x B CN (dfn_of X G c 10 10 41 "parse_deeds" rfl rfl) T_BadText C_text_lines C_read_deed
 have C_l_hand : Cal P w K mg "_law_hand" ["_law_script", "_law_k"] 1 (sp_l_hand K) := ok_l_hand B CN (dfn_of X G c 11 11 49 "_law_hand" rfl rfl)
 have C_l_pick : Cal P w K mg "_law_pick" ["_law_hand_here", "_law_size"] 1 (sp_l_pick K) := ok_l_pick B CN (dfn_of X G c 12 12 50 "_law_pick" rfl rfl)
 have C_l_int : Cal P w K mg "_law_int" ["_law_x"] 1 (sp_l_int K) := ok_l_int B CN (dfn_of X G c 13 13 51 "_law_int" rfl rfl)
 have C_l_some : Cal P w K mg "_law_some" ["_law_hand_here", "_law_size", "_law_share"] 2 (sp_l_some K) := ok_l_some B CN (dfn_of X G c 14 14 52 "_law_some" rfl rfl) C_l_pick
 have C_l_alike_v2 : Cal P w K mg "_law_alike" ["_law_told", "_law_due"] 2 (sp_l_alike_v2 K) := ok_l_alike_v2 B CN (dfn_of X G c 15 15 53 "_law_alike" rfl rfl) C_l_int
 have C_l_alike_v5 : Cal P w K mg "_law_alike" ["_law_told", "_law_due"] 3 (sp_l_alike_v5 K) := ok_l_alike_v5 B CN (dfn_of X G c 15 15 53 "_law_alike" rfl rfl) C_l_int C_l_alike_v2
 have C_l_alike_v1 : Cal P w K mg "_law_alike" ["_law_told", "_law_due"] 4 (sp_l_alike_v1 K) := ok_l_alike_v1 B CN (dfn_of X G c 15 15 53 "_law_alike" rfl rfl) C_l_alike_v5
 have C_l_alike_vb : Cal P w K mg "_law_alike" ["_law_told", "_law_due"] 1 (sp_l_alike_vb K) := ok_l_alike_vb B CN (dfn_of X G c 15 15 53 "_law_alike" rfl rfl)
 have C_l_alike_vi : Cal P w K mg "_law_alike" ["_law_told", "_law_due"] 2 (sp_l_alike_vi K) := ok_l_alike_vi B CN (dfn_of X G c 15 15 53 "_law_alike" rfl rfl) C_l_int
 have C_l_alike_vl : Cal P w K mg "_law_alike" ["_law_told", "_law_due"] 5 (sp_l_alike_vl K) := ok_l_alike_vl B CN (dfn_of X G c 15 15 53 "_law_alike" rfl rfl) C_l_alike_v1
 have C_l_alike : Cal P w K mg "_law_alike" ["_law_told", "_law_due"] 6 (sp_l_alike K) := ok_l_alike B CN (dfn_of X G c 15 15 53 "_law_alike" rfl rfl) C_l_alike_vb C_l_alike_vi C_l_alike_vl
 have C_l_hour : Cal P w K mg "_law_hour" ["_law_hand_here"] 2 (sp_l_hour K) := ok_l_hour B CN (dfn_of X G c 16 16 54 "_law_hour" rfl rfl) C_l_pick
 have C_l_zone : Cal P w K mg "_law_zone" ["_law_hand_here"] 3 (sp_l_zone K) := ok_l_zone B CN (dfn_of X G c 17 17 55 "_law_zone" rfl rfl) C_l_pick C_l_some
 have C_l_zone_word : Cal P w K mg "_law_zone_word" ["_law_zone_here"] 1 (sp_l_zone_word K) := ok_l_zone_word B CN (dfn_of X G c 18 18 56 "_law_zone_word" rfl rfl)
 have C_l_deed : Cal P w K mg "_law_deed" ["_law_hand_here"] 4 (sp_l_deed K) := ok_l_deed B CN (dfn_of X G c 19 19 57 "_law_deed" rfl rfl) C_l_pick C_l_hour C_l_zone
 have C_l_row : Cal P w K mg "_law_row" ["_law_deed_here"] 2 (sp_l_row K) := ok_l_row B CN (dfn_of X G c 20 20 58 "_law_row" rfl rfl) C_l_zone_word
 have C_l_lot : Cal P w K mg "_law_lot" ["_law_script", "_law_start", "_law_count"] 5 (sp_l_lot K) := ok_l_lot B CN (dfn_of X G c 21 21 59 "_law_lot" rfl rfl) C_l_hand C_l_deed
 have C_l_number : Cal P w K mg "_law_number" ["_law_word", "_law_most"] 1 (sp_l_number K) := ok_l_number B CN (dfn_of X G c 22 22 60 "_law_number" rfl rfl)
 have C_l_zone_of : Cal P w K mg "_law_zone_of" ["_law_word"] 2 (sp_l_zone_of K) := ok_l_zone_of B CN (dfn_of X G c 23 23 61 "_law_zone_of" rfl rfl) C_l_number
 have C_l_flags_of : Cal P w K mg "_law_flags_of" ["_law_word"] 1 (sp_l_flags_of K) := ok_l_flags_of B CN (dfn_of X G c 24 24 62 "_law_flags_of" rfl rfl)
 have C_l_slot : Cal P w K mg "_law_slot" ["_law_slot_here", "_law_word"] 3 (sp_l_slot K) := ok_l_slot B CN (dfn_of X G c 25 25 63 "_law_slot" rfl rfl) C_l_number C_l_zone_of C_l_flags_of
 have C_l_deed_of : Cal P w K mg "_law_deed_of" ["_law_line"] 4 (sp_l_deed_of K) := ok_l_deed_of B CN (dfn_of X G c 26 26 64 "_law_deed_of" rfl rfl) C_l_slot
 have C_l_reading : Cal P w K mg "_law_reading" ["_law_text"] 5 (sp_l_reading K) := ok_l_reading B CN (dfn_of X G c 27 27 65 "_law_reading" rfl rfl) C_l_deed_of
 have C_l_sign : Cal P w K mg "_law_sign" ["_law_hand_here"] 2 (sp_l_sign K) := ok_l_sign B CN (dfn_of X G c 28 28 66 "_law_sign" rfl rfl) C_l_pick
 have C_l_bent : Cal P w K mg "_law_bent" ["_law_hand_here", "_law_word"] 3 (sp_l_bent K) := ok_l_bent B CN (dfn_of X G c 29 29 67 "_law_bent" rfl rfl) C_l_pick C_l_sign
 have C_l_strange : Cal P w K mg "_law_strange" ["_law_hand_here"] 2 (sp_l_strange K) := ok_l_strange B CN (dfn_of X G c 30 30 68 "_law_strange" rfl rfl) C_l_pick
 have C_l_changed : Cal P w K mg "_law_changed" ["_law_hand_here", "_law_words", "_law_others"] 4 (sp_l_changed K) := ok_l_changed B CN (dfn_of X G c 31 31 69 "_law_changed" rfl rfl) C_l_pick C_l_bent C_l_strange
 have C_l_text_changed : Cal P w K mg "_law_text_changed" ["_law_hand_here", "_law_lines"] 5 (sp_l_text_changed K) := ok_l_text_changed B CN (dfn_of X G c 32 32 70 "_law_text_changed" rfl rfl) C_l_pick C_l_sign C_l_changed
 have C_l_asked : Cal P w K mg "_law_asked" ["_law_text"] 7 (sp_l_asked K) := ok_l_asked B CN (dfn_of X G c 33 33 71 "_law_asked" rfl rfl) C_parse_deeds_x
 have C_l_by_base : Cal P w K mg "_law_by_base" ["_law_text"] 7 (sp_l_by_base K) := ok_l_by_base B CN (dfn_of X G c 34 34 72 "_law_by_base" rfl rfl) C_parse_deeds_x
 have C_law : Cal P w K mg "law" ["_law_script"] 8 (sp_law K) := ok_law B CN (dfn_of X G c 35 35 73 "law" rfl rfl) C_l_hand C_l_pick C_l_alike C_l_row C_l_lot C_l_reading C_l_text_changed C_l_asked C_l_by_base
 exact fn_law hfa C_law
end G
open PySem PySem.W PySem.Calls PyProof.Rows
theorem PySem.Challenge.cw_fogfleet_k46_parse_deeds_holds : PySem.Challenge.rw_fogfleet_k46_parse_deeds.Holds := by
  w_on
  refine G.law_of fun said => ?_
  refine HandSHeadRun.head_any (r := OpenLaw.row PySem.Challenge.rw_fogfleet_k46_parse_deeds) (q := view (OpenLaw.row PySem.Challenge.rw_fogfleet_k46_parse_deeds).prog [73]) (H := G.hk) (ob := G.ob) (M := 40000) (loose := G.looseL) (d := HandSHeadRun.topDef (OpenLaw.row PySem.Challenge.rw_fogfleet_k46_parse_deeds).prog 73) (kwd := []) G.ob_eq
    (by kernel_rfl) (fun s => by kernel_rfl) G.run (by kernel_rfl) (by kernel_rfl) (by kernel_rfl) (by rfl) (by first | assumption | decide +kernel) (by decide +kernel) G.bare_ ?hw ?hc
  case hw => w_witness2
  case hc =>
    refine L2.walk_ofE (l := PySem.Challenge.rw_fogfleet_k46_parse_deeds) (n := 63) (k := 8) (x := "_law_script") (CX := L2.CX0) rfl (by decide) (by kernel_rfl) ⟨rfl, by decide, by decide⟩ ?F (fun _ _ _ _ z => z)
    intro w mg fa h Y G0 hmg0
    obtain ⟨K, KX, cT, c⟩ := Y
    have hmg : mg ("law" : PySem.Str) = some (.ref fa) := by
      have e : (HandSHeadRun.topDef (OpenLaw.row PySem.Challenge.rw_fogfleet_k46_parse_deeds).prog 73).name = ("law" : PySem.Str) := by kernel_rfl
      rw [← e]
      exact hmg0
    obtain ⟨fd, hb, hF⟩ := G.facts (P := (PySem.Challenge.rw_fogfleet_k46_parse_deeds).prog) (w := w) KX G0 cT c (by kernel_rfl) (by kernel_rfl) hmg
    exact ⟨K, fd, G.sp_law K, KX, hb, fun H a ns hl hO hS => ⟨_, ns, true, rfl, G.yScr_of hO hS, Mi.law_true ns hl, fun _ _ => rfl⟩, hF⟩

