import PyProof.Rows.All
import Wide.All
import OpenK.AllK
import Wide.FinOn
import HandS.ForMost
import HandS.ForExc
import HandS.Wide
import HandS.IsInst
import HandS.Flow
import HandS.Defaults
import HandS.SortInts
import HandS.Strs
import HandS.TupSets
import HandS.MakeKw
import HandS.MakeKwOnly
import HandS.Conv
import HandS.Steps
import KE.GoesMore
import HandS.Text
import HandS.Iter
import HandS.SortRule
import HandS.TupLe
import HandS.HeadHook1
import HandS.HeadHook2
import HandS.Deep
import KE.KRevSl
import HandS.Rev
import HandS.RevTup
import HandS.IterVal
import HandS.OwnIter
import KE.KSuper
import KE.KExcSuper
import KE.KExcIs
import HandS.ExcField
import HandS.ExcOwn
import HandS.WordsExc
import HandS.Head0
import HandS.FStr
import HandS.Star
import PyProof.Rows.MatchSeqLen
import HandS.More
import HandS.Zip
import KE.GoesEnumKw
import HandS.HeadHook3
import KE.GoesEnum
import HandS.DeepEq
import KE.GoesZip
import HandS.GenCall
import HandS.GenList
import HandS.ExcCtx
import HandS.HotCalls
import KE.DataCmp
import HandS.SortKw
import HandS.DictComp
import HandS.SetBool
import HandS.DictTup
import KE.KDictPairs
import HandS.Head1
import HandS.Head2
import HandS.TupAny
import KE.KStateDown
import PyProof.ByEval2
import Lean
import HandS.HeadEnd
import PySem.Challenge.RW_fogfleet_k63_whole_least_schedule
set_option Elab.async false
set_option linter.all false
set_option synthInstance.maxSize 1000
set_option maxRecDepth 100000
set_option maxHeartbeats 4000000
namespace Mi
def pyLet {α β : Type} (e : α) (f : α → β) : β := f e
def ixN (n : Nat) (i : Int) : Option Nat := if 0 ≤ i then (if i < n then some i.toNat else none) else if -(n : Int) ≤ i then some (i + n).toNat else none
def at_ {α : Type} (xs : List α) (i : Int) : Option α := (ixN xs.length i).bind fun j => xs[j]?
def setAt {α : Type} (xs : List α) (i : Int) (x : α) : Option (List α) := (ixN xs.length i).bind fun j => some (xs.set j x)
def sIx (n d : Nat) : Option Int → Nat
 | none => d
 | some v => if v < 0 then (v + (n : Int)).toNat else min v.toNat n
def cut {α : Type} (xs : List α) (lo hi : Option Int) : List α := (xs.drop (sIx xs.length 0 lo)).take (sIx xs.length xs.length hi - sIx xs.length 0 lo)
def big : Nat := 1000000
def app {α : Type} (xs : List α) (x : α) : Option (List α) := if xs.length < big then some (xs ++ [x]) else none
def cat {α : Type} (xs ys : List α) : Option (List α) := if xs.length + ys.length ≤ big then some (xs ++ ys) else none
def mul (i j : Int) : Option Int := if (-(2 ^ 64) < i ∧ i < 2 ^ 64) ∨ (-(2 ^ 64) < j ∧ j < 2 ^ 64) then some (i * j) else none
def mod (i j : Int) : Option Int := if 0 < j then some (i % j) else none
def fdiv (i j : Int) : Option Int := if 0 < j ∧ j < 2 ^ 200 then some (i / j) else none
def guardO (c : Bool) : Option Unit := if c = true then some () else none
def rng (lo hi : Int) : List Int := (List.range (hi - lo).toNat).map fun (k : Nat) => lo + (k : Int)
def forN {α σ : Type} (f : σ → α → Option σ) : σ → List α → Option σ
 | s, [] => some s
 | s, x :: xs => (f s x).bind fun s' => forN f s' xs
def forR {α σ ρ : Type} (f : σ → α → Option (ρ ⊕ σ)) : σ → List α → Option (ρ ⊕ σ)
 | s, [] => some (.inr s)
 | s, x :: xs => (f s x).bind fun
   | .inl r => some (.inl r)
   | .inr s' => forR f s' xs
def whileR {σ ρ : Type} (c : σ → Option Bool) (b : σ → Option (ρ ⊕ σ)) : Nat → σ → Option (ρ ⊕ σ)
 | 0, _ => none
 | n + 1, s => (c s).bind fun t => if t = true then (b s).bind fun
     | .inl r => some (.inl r)
     | .inr s' => whileR c b n s'
   else some (.inr s)
theorem bnd {α β : Type} {m : Option α} {f : α → Option β} {r : β} (h : m.bind f = some r) : ∃ x, m = some x ∧ f x = some r := by
 cases m with
 | none => cases h
 | some x => exact ⟨x, rfl, h⟩
theorem letE {α β : Type} {e : α} {f : α → Option β} {r : Option β} (h : pyLet e f = r) : ∃ x, e = x ∧ f x = r := ⟨e, rfl, h⟩
theorem ifT {α : Type} {b : Bool} {x y : Option α} {r : Option α} (hb : b = true) (h : (if b = true then x else y) = r) : x = r := by
 rw [if_pos hb] at h; exact h
theorem ifF {α : Type} {b : Bool} {x y : Option α} {r : Option α} (hb : b = false) (h : (if b = true then x else y) = r) : y = r := by
 rw [hb, if_neg Bool.false_ne_true] at h; exact h
end Mi
namespace Mi
def rngO (lo hi : Int) : Option (List Int) := if (-(2 ^ 60) ≤ lo ∧ lo < 2 ^ 60) ∧ (-(2 ^ 60) ≤ hi ∧ hi < 2 ^ 60) then some (rng lo hi) else none
theorem forN_go {α σ : Type} {f : σ → α → Option σ} {s e : σ} {xs : List α} {i : Nat} {x : α} (h : forN f s (xs.drop i) = some e) (hx : xs[i]? = some x) : ∃ s', f s x = some s' ∧ forN f s' (xs.drop (i + 1)) = some e := by
 have hi : i < xs.length := (List.getElem?_eq_some_iff.mp hx).1
 have e1 : xs.drop i = x :: xs.drop (i + 1) := by
   rw [List.drop_eq_getElem_cons hi]
   congr 1
   exact (List.getElem?_eq_some_iff.mp hx).2
 rw [e1] at h
 exact bnd h
theorem forN_end {α σ : Type} {f : σ → α → Option σ} {s e : σ} {xs : List α} (h : forN f s (xs.drop xs.length) = some e) : s = e := by
 rw [List.drop_length] at h
 exact Option.some.inj h
theorem forR_go {α σ ρ : Type} {f : σ → α → Option (ρ ⊕ σ)} {s : σ} {e : ρ ⊕ σ} {xs : List α} {i : Nat} {x : α} (h : forR f s (xs.drop i) = some e) (hx : xs[i]? = some x) :
   ∃ o, f s x = some o ∧ ((∃ r, o = .inl r ∧ e = .inl r) ∨ ∃ s', o = .inr s' ∧ forR f s' (xs.drop (i + 1)) = some e) := by
 have hi : i < xs.length := (List.getElem?_eq_some_iff.mp hx).1
 have e1 : xs.drop i = x :: xs.drop (i + 1) := by
   rw [List.drop_eq_getElem_cons hi]
   congr 1
   exact (List.getElem?_eq_some_iff.mp hx).2
 rw [e1] at h
 obtain ⟨o, h1, h2⟩ := bnd h
 refine ⟨o, h1, ?_⟩
 cases o with
 | inl r => exact .inl ⟨r, rfl, (Option.some.inj h2).symm⟩
 | inr s' => exact .inr ⟨s', rfl, h2⟩
theorem forR_end {α σ ρ : Type} {f : σ → α → Option (ρ ⊕ σ)} {s : σ} {e : ρ ⊕ σ} {xs : List α} (h : forR f s (xs.drop xs.length) = some e) : e = .inr s := by
 rw [List.drop_length] at h
 exact (Option.some.inj h).symm
end Mi
namespace Mi
def orR {ρ σ : Type} (o : ρ ⊕ σ) (k : σ → Option ρ) : Option ρ := match o with
 | .inl r => some r
 | .inr s => k s
def orL {ρ σ τ : Type} (o : ρ ⊕ σ) (k : σ → Option (ρ ⊕ τ)) : Option (ρ ⊕ τ) := match o with
 | .inl r => some (.inl r)
 | .inr s => k s
theorem orR_inl {ρ σ : Type} {r q : ρ} {k : σ → Option ρ} (h : orR (.inl r) k = some q) : some r = some q := h
theorem orR_inr {ρ σ : Type} {s : σ} {q : ρ} {k : σ → Option ρ} (h : orR (.inr s) k = some q) : k s = some q := h
theorem orL_inl {ρ σ τ : Type} {r : ρ} {q : ρ ⊕ τ} {k : σ → Option (ρ ⊕ τ)} (h : orL (.inl r) k = some q) : some (.inl r) = some q := h
theorem orL_inr {ρ σ τ : Type} {s : σ} {q : ρ ⊕ τ} {k : σ → Option (ρ ⊕ τ)} (h : orL (.inr s) k = some q) : k s = some q := h
theorem or_inl {ρ σ : Type} {r : ρ} {e : ρ ⊕ σ} {P : σ → Prop} (h : (∃ r', (Sum.inl r : ρ ⊕ σ) = .inl r' ∧ e = .inl r') ∨ ∃ s', (Sum.inl r : ρ ⊕ σ) = .inr s' ∧ P s') : e = .inl r := by
 rcases h with ⟨r', h1, h2⟩ | ⟨s', h1, _⟩
 · cases h1; exact h2
 · cases h1
theorem or_inr {ρ σ : Type} {s : σ} {e : ρ ⊕ σ} {P : σ → Prop} (h : (∃ r', (Sum.inr s : ρ ⊕ σ) = .inl r' ∧ e = .inl r') ∨ ∃ s', (Sum.inr s : ρ ⊕ σ) = .inr s' ∧ P s') : P s := by
 rcases h with ⟨r', h1, h2⟩ | ⟨s', h1, h2⟩
 · cases h1
 · cases h1; exact h2
end Mi
namespace Mi
def sortI (xs : List Int) : List Int := xs.mergeSort fun a b => decide (a ≤ b)
def lMin (xs : List Int) : Option Int := xs.head?.map fun x => xs.foldl min x
def lMax (xs : List Int) : Option Int := xs.head?.map fun x => xs.foldl max x
def enumF {α : Type} : Int → List α → List (Int × α)
 | _, [] => []
 | k, x :: xs => (k, x) :: enumF (k + 1) xs
end Mi
namespace Mi
def okS (s : List Nat) : Bool := s.all fun c => decide (c < 1114112)
def bI (b : Bool) : Int := if b = true then 1 else 0
end Mi
namespace Mi
def repL {α : Type} (xs : List α) (k : Int) : Option (List α) := if -(2 ^ 60) ≤ k ∧ k < 2 ^ 60 ∧ xs.length * k.toNat ≤ big then some (List.replicate k.toNat xs).flatten else none
def rngL (lo hi : Int) : Option (List Int) := if (-(2 ^ 60) ≤ lo ∧ lo < 2 ^ 60) ∧ (-(2 ^ 60) ≤ hi ∧ hi < 2 ^ 60) ∧ (hi - lo).toNat ≤ 1000000 then some (rng lo hi) else none
end Mi
namespace Mi
def ext {α : Type} (xs ys : List α) : Option (List α) := if xs.length + ys.length ≤ big then some (xs ++ ys) else none
end Mi
namespace Mi
end Mi
namespace Mi
def tryX {ε α β : Type} (q : ε ⊕ α) (f : ε → Option β) (g : α → Option β) : Option β := match q with
 | .inl y => f y
 | .inr a => g a
theorem tryL {ε α β : Type} {y : ε} {f : ε → Option β} {g : α → Option β} {r : Option β} (h : tryX (.inl y) f g = r) : f y = r := h
theorem tryR {ε α β : Type} {a : α} {f : ε → Option β} {g : α → Option β} {r : Option β} (h : tryX (.inr a) f g = r) : g a = r := h
end Mi
namespace Mi
end Mi
namespace Mi
def asL {α β : Type} : α ⊕ β → Option α
 | .inl a => some a
 | .inr _ => none
def asR {α β : Type} : α ⊕ β → Option β
 | .inr b => some b
 | .inl _ => none
end Mi
namespace Mi
def sInt (i : Int) : List Nat := (toString i).toList.map Char.toNat
def sOfI (i : Int) : Option (List Nat) := if i.natAbs < 10 ^ 15 then some (sInt i) else none
end Mi
namespace Mi
end Mi
namespace Mi
abbrev U5 : Type := Int ⊕ List Nat ⊕ Bool ⊕ List Int ⊕ List Bool
end Mi
namespace Mi
end Mi
namespace Mi
end Mi
namespace Mi
end Mi
namespace Mi
def yld {β : Type} [DecidableEq β] (tot : List β) (y : Int) (d : β) : Option Int := if 0 ≤ y ∧ tot[y.toNat]? = some d then some (y + 1) else none
end Mi
namespace Mi
end Mi
namespace Mi
def catN {α : Type} (xs ys : List α) : Option (List α) := if xs ≠ [] ∧ xs.length + ys.length ≤ big then some (xs ++ ys) else none
theorem whileR_go {σ ρ : Type} {c : σ → Option Bool} {b : σ → Option (ρ ⊕ σ)} {m : Nat} {s : σ} {e : ρ ⊕ σ} (h : whileR c b m s = some e) : ∃ n t, m = n + 1 ∧ c s = some t ∧ (if t = true then (b s).bind (fun o => match o with | .inl r => some (.inl r) | .inr s' => whileR c b n s') else some (.inr s)) = some e := by
 cases m with
 | zero => cases h
 | succ n =>
   obtain ⟨t, h1, h2⟩ := bnd (show (c s).bind (fun t => if t = true then (b s).bind (fun o => match o with | .inl r => some (.inl r) | .inr s' => whileR c b n s') else some (.inr s)) = some e from h)
   exact ⟨n, t, rfl, h1, h2⟩
theorem whileR_step {σ ρ : Type} {c : σ → Option Bool} {b : σ → Option (ρ ⊕ σ)} {n : Nat} {s : σ} {e : ρ ⊕ σ} (h : ((b s).bind (fun o => match o with | .inl r => some (.inl r) | .inr s' => whileR c b n s')) = some e) :
   ∃ o, b s = some o ∧ ((∃ r, o = .inl r ∧ e = .inl r) ∨ ∃ s', o = .inr s' ∧ whileR c b n s' = some e) := by
 obtain ⟨o, h1, h2⟩ := bnd h
 refine ⟨o, h1, ?_⟩
 cases o with
 | inl r => exact .inl ⟨r, rfl, (Option.some.inj h2).symm⟩
 | inr s' => exact .inr ⟨s', rfl, h2⟩
end Mi
namespace Mi
def m_Gate_init (d1 : (List Int)) : Option ((List Int)) :=
 some (Mi.sortI d1)
def m_Gate_contains (d0 : ((List Int))) (d1 : Int) : Option Bool :=
 some (d0.contains d1)
def m_is_order (d0 : (List (Int × Int))) (d1 : (List (Int ⊕ (List Nat) ⊕ ((List Int))))) : Option Bool :=
 pyLet ((d0.length : Int) : Int) fun count3 =>
 (at_ d1 (0 : Int)).bind fun x4 =>
 (asR x4).bind fun x8 =>
 (asL x8).bind fun x10 =>
 if (([([98, 121] : List Nat), ([102, 114, 111, 109] : List Nat), ([103, 97, 116, 101] : List Nat), ([98, 97, 114] : List Nat)] : List (List Nat)).contains x10) = true then
 ((at_ d1 (1 : Int)).bind fun x12 =>
 (asL x12).bind fun x16 =>
 some ((decide ((0 : Int) ≤ x16)) && (decide (x16 < count3))))
 else
 (at_ d1 (0 : Int)).bind fun x18 =>
 (asR x18).bind fun x22 =>
 (asL x22).bind fun x24 =>
 if (([([97, 102, 116, 101, 114] : List Nat), ([119, 105, 116, 104] : List Nat), ([108, 97, 110, 100, 115] : List Nat)] : List (List Nat)).contains x24) = true then
 ((at_ d1 (1 : Int)).bind fun x26 =>
 (asL x26).bind fun x30 =>
 (if ((decide ((0 : Int) ≤ x30)) && (decide (x30 < count3))) = true then (at_ d1 (2 : Int)).bind fun x33 => (asL x33).bind fun x37 => (if ((decide ((0 : Int) ≤ x37)) && (decide (x37 < count3))) = true then (at_ d1 (1 : Int)).bind fun x40 => (asL x40).bind fun x44 => (at_ d1 (2 : Int)).bind fun x46 => (asL x46).bind fun x50 => some (!(decide (x44 = x50))) else some false).bind fun b52 => some b52 else some false).bind fun b53 =>
 some b53)
 else
 some false
def m_check_orders_b1 (d0 : (List (Int × Int))) (s4 : Unit) (x8 : (Int × (List (Int ⊕ (List Nat) ⊕ ((List Int)))))) : Option Unit :=
 (m_is_order d0 x8.2).bind fun q14 =>
 if (!q14) = true then
 (none)
 else
 some ()
def m_check_orders (d0 : (List (Int × Int))) (d1 : (List (List (Int ⊕ (List Nat) ⊕ ((List Int)))))) : Option Unit :=
 (forN (m_check_orders_b1 d0) () (Mi.enumF 0 d1)).bind fun s4 =>
 some ()
def m_check_orders_x_b1 (d0 : (List (Int × Int))) (s4 : Unit) (x8 : (Int × (List (Int ⊕ (List Nat) ⊕ ((List Int)))))) : Option ((Int ⊕ Unit) ⊕ Unit) :=
 (m_is_order d0 x8.2).bind fun q15 =>
 if (!q15) = true then
 ((sOfI x8.1).bind fun z18 =>
 some (.inl (.inl x8.1)))
 else
 some (.inr ())
def m_check_orders_x (d0 : (List (Int × Int))) (d1 : (List (List (Int ⊕ (List Nat) ⊕ ((List Int)))))) : Option (Int ⊕ Unit) :=
 (forR (m_check_orders_x_b1 d0) () (Mi.enumF 0 d1)).bind fun e3 => orR e3 fun s4 =>
 some (.inr ())
def m_Gate_first_from_b1 (d1 : Int) (s8 : Unit) (x11 : Int) : Option ((Option Int) ⊕ Unit) :=
 if (decide (d1 ≤ x11)) = true then
 (some (.inl (some x11)))
 else
 some (.inr ())
def m_Gate_first_from (d0 : ((List Int))) (d1 : Int) : Option (Option Int) :=
 (forR (m_Gate_first_from_b1 d1) () d0).bind fun e7 => orR e7 fun s8 =>
 some (none : (Option Int))
def m_opening (d0 : ((List Int))) (d1 : Int) (d2 : Int) : Option Int :=
 (m_Gate_first_from d0 d1).bind fun q4 =>
 if q4.isSome = true then
 ((q4).bind fun x9 =>
 some x9)
 else
 some (d2 + (1 : Int))
def m_Gate_shrunk_b1 (d0 : ((List Int))) (d1 : Int) (d2 : Int) (s25 : ((List Int) × Int)) (x28 : Int) : Option ((List Int) × Int) :=
 (if (d0.contains x28) = true then  some (s25.2 + (1 : Int)) else  some (0 : Int)).bind fun x36 =>
 pyLet (x36 : Int) fun run37 =>
 (if ((decide ((d2 - d1) < run37)) && (decide (d2 ≤ x28))) = true then ((app s25.1 (x28 - d2)).bind fun x40 =>
 some x40) else (some s25.1) : Option (List Int)).bind fun s38 =>
 some (s38, run37)
def m_Gate_shrunk (d0 : ((List Int))) (d1 : Int) (d2 : Int) : Option ((List Int)) :=
 pyLet ((0 : Int) : Int) fun run10 =>
 (if (!d0.isEmpty) = true then (at_ d0 (-(1 : Int))).bind fun x20 => some (x20 + (1 : Int)) else  some (0 : Int)).bind fun x22 =>
 (rngO 0 x22).bind fun g23 =>
 (forN (m_Gate_shrunk_b1 d0 d1 d2) (([] : (List Int)), run10) g23).bind fun s25 =>
 (m_Gate_init s25.1).bind fun q52 =>
 some q52
def m_asked (d0 : (List (Int × Int))) (d1 : (List (Int ⊕ (List Nat) ⊕ ((List Int))))) (d2 : (List Int)) (d3 : Int) : Option (Int × Int) :=
 (at_ d1 (1 : Int)).bind fun x5 =>
 (asL x5).bind fun x9 =>
 pyLet (x9 : Int) fun one11 =>
 (at_ d0 one11).bind fun x12 =>
 (at_ d1 (0 : Int)).bind fun x20 =>
 (asR x20).bind fun x24 =>
 (asL x24).bind fun x26 =>
 if (decide (x26 = ([97, 102, 116, 101, 114] : List Nat))) = true then
 ((at_ d1 (2 : Int)).bind fun x28 =>
 (asL x28).bind fun x32 =>
 (at_ d2 one11).bind fun x34 =>
 (at_ d1 (3 : Int)).bind fun x35 =>
 (asL x35).bind fun x39 =>
 some (x32, ((x34 + x12.2) + x39)))
 else
 if (decide (x26 = ([119, 105, 116, 104] : List Nat))) = true then
 ((at_ d1 (2 : Int)).bind fun x46 =>
 (asL x46).bind fun x50 =>
 (at_ d2 x50).bind fun x52 =>
 (at_ d1 (3 : Int)).bind fun x53 =>
 (asL x53).bind fun x57 =>
 some (one11, (x52 - x57)))
 else
 if (decide (x26 = ([108, 97, 110, 100, 115] : List Nat))) = true then
 ((at_ d1 (2 : Int)).bind fun x64 =>
 (asL x64).bind fun x68 =>
 (at_ d2 x68).bind fun x70 =>
 (at_ d1 (2 : Int)).bind fun x71 =>
 (asL x71).bind fun x75 =>
 (at_ d0 x75).bind fun x77 =>
 (at_ d1 (3 : Int)).bind fun x87 =>
 (asL x87).bind fun x91 =>
 some (one11, (((x70 + x77.2) - x12.1) - x91)))
 else
 if (decide (x26 = ([98, 121] : List Nat))) = true then
 ((at_ d2 one11).bind fun x98 =>
 (at_ d1 (2 : Int)).bind fun x99 =>
 (asL x99).bind fun x103 =>
 (if (decide (x103 < (x98 + x12.2))) = true then  some (d3 + (1 : Int)) else  some (0 : Int)).bind fun x107 =>
 some (one11, x107))
 else
 if (decide (x26 = ([102, 114, 111, 109] : List Nat))) = true then
 ((at_ d1 (2 : Int)).bind fun x113 =>
 (asL x113).bind fun x117 =>
 some (one11, x117))
 else
 if (decide (x26 = ([103, 97, 116, 101] : List Nat))) = true then
 ((at_ d1 (2 : Int)).bind fun x124 =>
 (asR x124).bind fun x128 =>
 (asR x128).bind fun x130 =>
 (at_ d2 one11).bind fun x132 =>
 (m_opening x130 x132 d3).bind fun q133 =>
 some (one11, q133))
 else
 (at_ d1 (2 : Int)).bind fun x141 =>
 (asR x141).bind fun x145 =>
 (asR x145).bind fun x147 =>
 (m_Gate_shrunk x147 x12.1 x12.2).bind fun q149 =>
 (at_ d2 one11).bind fun x154 =>
 (m_opening q149 x154 d3).bind fun q155 =>
 some (one11, q155)
def m_gated (d0 : (List (Int × Int))) (d1 : (List (Int ⊕ (List Nat) ⊕ ((List Int))))) : Option (List (Int ⊕ (List Nat) ⊕ ((List Int)))) :=
 (at_ d1 (0 : Int)).bind fun x3 =>
 (asR x3).bind fun x7 =>
 (asL x7).bind fun x9 =>
 if (!(decide (x9 = ([98, 97, 114] : List Nat)))) = true then
 (some d1)
 else
 (at_ d1 (1 : Int)).bind fun x11 =>
 (asL x11).bind fun x15 =>
 (at_ d0 x15).bind fun x17 =>
 (at_ d1 (1 : Int)).bind fun x25 =>
 (asL x25).bind fun x29 =>
 (at_ d1 (2 : Int)).bind fun x31 =>
 (asR x31).bind fun x35 =>
 (asR x35).bind fun x37 =>
 (m_Gate_shrunk x37 x17.1 x17.2).bind fun q39 =>
 some ([(.inr (.inl ([103, 97, 116, 101] : List Nat))), (.inl x29), (.inr (.inr q39))] : (List (Int ⊕ (List Nat) ⊕ ((List Int)))))
def m_least_schedule_b1 (d0 : (List (Int × Int))) (s8 : (List (List (Int ⊕ (List Nat) ⊕ ((List Int)))))) (x19 : (List (Int ⊕ (List Nat) ⊕ ((List Int))))) : Option (List (List (Int ⊕ (List Nat) ⊕ ((List Int))))) :=
 (m_gated d0 x19).bind fun q28 =>
 (app s8 q28).bind fun x33 =>
 some x33
def m_least_schedule_b3 (d0 : (List (Int × Int))) (d2 : Int) (s79 : ((List Int) × (List (Int × Int × Int)) × Bool)) (x85 : (Int × (List (Int ⊕ (List Nat) ⊕ ((List Int)))))) : Option (((Option (List Int)) × (List (Int × Int × Int))) ⊕ ((List Int) × (List (Int × Int × Int)) × Bool)) :=
 (m_asked d0 x85.2 s79.1 d2).bind fun q92 =>
 (((at_ s79.1 q92.1).bind fun x103 =>
 if (decide (x103 < q92.2)) = true then ((setAt s79.1 q92.1 q92.2).bind fun x104 =>
 (app s79.2.1 (q92.1, q92.2, x85.1)).bind fun x112 =>
 pyLet (true : Bool) fun lifted115 =>
 if (decide (d2 < q92.2)) = true then
 (some (.inl ((none : (Option (List Int))), x112)))
 else
 some (.inr (x104, x112, lifted115))) else (some (.inr (s79.1, s79.2.1, s79.2.2))) : Option (((Option (List Int)) × (List (Int × Int × Int))) ⊕ ((List Int) × (List (Int × Int × Int)) × Bool)))).bind fun s101 => orL s101 fun s102 =>
 some (.inr (s102.1, s102.2.1, s102.2.2))
def m_least_schedule_c2  (s68 : ((List Int) × (List (Int × Int × Int)) × Bool)) : Option Bool :=
 some s68.2.2
def m_least_schedule_b2 (d0 : (List (Int × Int))) (d2 : Int) (s8 : (List (List (Int ⊕ (List Nat) ⊕ ((List Int)))))) (s68 : ((List Int) × (List (Int × Int × Int)) × Bool)) : Option (((Option (List Int)) × (List (Int × Int × Int))) ⊕ ((List Int) × (List (Int × Int × Int)) × Bool)) :=
 pyLet (false : Bool) fun lifted77 =>
 (forR (m_least_schedule_b3 d0 d2) (s68.1, s68.2.1, lifted77) (Mi.enumF 0 s8)).bind fun e78 => orL e78 fun s79 =>
 some (.inr (s79.1, s79.2.1, s79.2.2))
def m_least_schedule (d0 : (List (Int × Int))) (d1 : (List (List (Int ⊕ (List Nat) ⊕ ((List Int)))))) (d2 : Int) : Option ((Option (List Int)) × (List (Int × Int × Int))) :=
 (m_check_orders d0 d1).bind fun q4 =>
 (forN (m_least_schedule_b1 d0) ([] : (List (List (Int ⊕ (List Nat) ⊕ ((List Int)))))) d1).bind fun s8 =>
 (repL [(0 : Int)] (d0.length : Int)).bind fun x45 =>
 pyLet (true : Bool) fun lifted66 =>
 (whileR (m_least_schedule_c2) (m_least_schedule_b2 d0 d2 s8) 5000 (x45, ([] : (List (Int × Int × Int))), lifted66)).bind fun e67 => orR e67 fun s68 =>
 some ((some s68.1), s68.2.1)
def m_least_schedule_x_b1 (d0 : (List (Int × Int))) (s16 : (List (List (Int ⊕ (List Nat) ⊕ ((List Int)))))) (x27 : (List (Int ⊕ (List Nat) ⊕ ((List Int))))) : Option (List (List (Int ⊕ (List Nat) ⊕ ((List Int))))) :=
 (m_gated d0 x27).bind fun q36 =>
 (app s16 q36).bind fun x41 =>
 some x41
def m_least_schedule_x_b3 (d0 : (List (Int × Int))) (d2 : Int) (s87 : ((List Int) × (List (Int × Int × Int)) × Bool)) (x93 : (Int × (List (Int ⊕ (List Nat) ⊕ ((List Int)))))) : Option ((Int ⊕ ((Option (List Int)) × (List (Int × Int × Int)))) ⊕ ((List Int) × (List (Int × Int × Int)) × Bool)) :=
 (m_asked d0 x93.2 s87.1 d2).bind fun q100 =>
 (((at_ s87.1 q100.1).bind fun x111 =>
 if (decide (x111 < q100.2)) = true then ((setAt s87.1 q100.1 q100.2).bind fun x112 =>
 (app s87.2.1 (q100.1, q100.2, x93.1)).bind fun x120 =>
 pyLet (true : Bool) fun lifted123 =>
 if (decide (d2 < q100.2)) = true then
 (some (.inl (.inr ((none : (Option (List Int))), x120))))
 else
 some (.inr (x112, x120, lifted123))) else (some (.inr (s87.1, s87.2.1, s87.2.2))) : Option ((Int ⊕ ((Option (List Int)) × (List (Int × Int × Int)))) ⊕ ((List Int) × (List (Int × Int × Int)) × Bool)))).bind fun s109 => orL s109 fun s110 =>
 some (.inr (s110.1, s110.2.1, s110.2.2))
def m_least_schedule_x_c2  (s76 : ((List Int) × (List (Int × Int × Int)) × Bool)) : Option Bool :=
 some s76.2.2
def m_least_schedule_x_b2 (d0 : (List (Int × Int))) (d2 : Int) (s16 : (List (List (Int ⊕ (List Nat) ⊕ ((List Int)))))) (s76 : ((List Int) × (List (Int × Int × Int)) × Bool)) : Option ((Int ⊕ ((Option (List Int)) × (List (Int × Int × Int)))) ⊕ ((List Int) × (List (Int × Int × Int)) × Bool)) :=
 pyLet (false : Bool) fun lifted85 =>
 (forR (m_least_schedule_x_b3 d0 d2) (s76.1, s76.2.1, lifted85) (Mi.enumF 0 s16)).bind fun e86 => orL e86 fun s87 =>
 some (.inr (s87.1, s87.2.1, s87.2.2))
def m_least_schedule_x (d0 : (List (Int × Int))) (d1 : (List (List (Int ⊕ (List Nat) ⊕ ((List Int)))))) (d2 : Int) : Option (Int ⊕ ((Option (List Int)) × (List (Int × Int × Int)))) :=
 (m_check_orders_x d0 d1).bind fun q4 => tryX q4 (fun y7 => (some (.inl y7))) fun q11 =>
 (forN (m_least_schedule_x_b1 d0) ([] : (List (List (Int ⊕ (List Nat) ⊕ ((List Int)))))) d1).bind fun s16 =>
 (repL [(0 : Int)] (d0.length : Int)).bind fun x53 =>
 pyLet (true : Bool) fun lifted74 =>
 (whileR (m_least_schedule_x_c2) (m_least_schedule_x_b2 d0 d2 s16) 5000 (x53, ([] : (List (Int × Int × Int))), lifted74)).bind fun e75 => orR e75 fun s76 =>
 some (.inr ((some s76.1), s76.2.1))
def m_l_hand (d0 : (List Int)) (d1 : Int) : Option (List Int) :=
 pyLet ((0 : Int) : Int) fun cell3 =>
 (if (decide (d1 < (d0.length : Int))) = true then ((at_ d0 d1).bind fun x5 =>
 pyLet (x5 : Int) fun cell6 =>
 some cell6) else (some cell3) : Option Int).bind fun s4 =>
 (if (decide (s4 < (0 : Int))) = true then (pyLet (((1 : Int) - ((2 : Int) * s4)) : Int) fun cell8 =>
 some cell8) else (some s4) : Option Int).bind fun s7 =>
 pyLet ((0 : Int) : Int) fun rest9 =>
 (if (decide (((10 : Int) ^ 18) ≤ s7)) = true then (pyLet (s7 : Int) fun rest11 =>
 some rest11) else (some rest9) : Option Int).bind fun s10 =>
 some [s10, (((s7 + ((7919 : Int) * d1)) + (13 : Int)) % (2147483647 : Int)), (0 : Int)]
def m_l_pick (d0 : (List Int)) (d1 : Int) : Option (Int × (List Int)) :=
 if (decide (d1 < (1 : Int))) = true then
 (some ((0 : Int), d0))
 else
 (at_ d0 (0 : Int)).bind fun x3 =>
 if (decide ((0 : Int) < x3)) = true then
 ((at_ d0 (0 : Int)).bind fun x4 =>
 (mod x4 d1).bind fun x5 =>
 pyLet (x5 : Int) fun digit6 =>
 (at_ d0 (0 : Int)).bind fun x7 =>
 (fdiv x7 d1).bind fun x8 =>
 (setAt d0 (0 : Int) x8).bind fun x9 =>
 some (digit6, x9))
 else
 (at_ d0 (2 : Int)).bind fun x12 =>
 (setAt d0 (2 : Int) (x12 + (1 : Int))).bind fun x13 =>
 (at_ x13 (1 : Int)).bind fun x16 =>
 (at_ x13 (2 : Int)).bind fun x17 =>
 pyLet ((((x16 + ((7919 : Int) * x17)) + (13 : Int)) % (2147483647 : Int)) : Int) fun mixed18 =>
 (mul mixed18 (mixed18 + (48271 : Int))).bind fun x19 =>
 pyLet ((x19 % (2147483629 : Int)) : Int) fun mixed20 =>
 (mul mixed20 (mixed20 + (69621 : Int))).bind fun x21 =>
 (at_ x13 (2 : Int)).bind fun x22 =>
 pyLet (((x21 + ((31 : Int) * x22)) % (2147483647 : Int)) : Int) fun mixed23 =>
 (mod (mixed23 / (9 : Int)) d1).bind fun x24 =>
 some (x24, x13)
def m_l_int_0 (d0 : Int) : Option Bool :=
 some (true && (!false))
def m_l_int_1 (d0 : (Option Int)) : Option Bool :=
 some ((d0.isSome && true) && (!(d0.isSome && false)))
def m_l_sailings_b1 (x29 : Int) (s41 : ((List Int) × (List (Int × Int)))) (x45 : Int) : Option ((List Int) × (List (Int × Int))) :=
 (m_l_pick s41.1 x29).bind fun q47 =>
 (m_l_pick q47.2 (x29 - q47.1)).bind fun q50 =>
 (app s41.2 (q47.1, (q47.1 + q50.1))).bind fun x58 =>
 some (q50.2, x58)
def m_l_sailings (d0 : (List Int)) : Option ((List (Int × Int)) × (List Int)) :=
 (m_l_pick d0 (8 : Int)).bind fun q9 =>
 (at_ [(6 : Int), (6 : Int), (6 : Int), (6 : Int), (6 : Int), (6 : Int), (6 : Int), (12 : Int)] q9.1).bind fun x12 =>
 (m_l_pick q9.2 x12).bind fun q15 =>
 pyLet (((1 : Int) + q15.1) : Int) fun count18 =>
 (m_l_pick q15.2 (8 : Int)).bind fun q26 =>
 (at_ [(10 : Int), (10 : Int), (10 : Int), (10 : Int), (10 : Int), (10 : Int), (4 : Int), (61 : Int)] q26.1).bind fun x29 =>
 (rngO 0 count18).bind fun g39 =>
 (forN (m_l_sailings_b1 x29) (q26.2, ([] : (List (Int × Int)))) g39).bind fun s41 =>
 some (s41.2, s41.1)
def m_l_schedule_b1 (x13 : Int) (s18 : ((List Int) × (List Int))) (x28 : Int) : Option ((List Int) × (List Int)) :=
 (m_l_pick s18.2 x13).bind fun q37 =>
 (app s18.1 q37.1).bind fun x40 =>
 some (x40, q37.2)
def m_l_schedule (d0 : (List Int)) (d1 : Int) : Option ((List Int) × (List Int)) :=
 (m_l_pick d0 (4 : Int)).bind fun q10 =>
 (at_ [(61 : Int), (31 : Int), (9 : Int), (97 : Int)] q10.1).bind fun x13 =>
 (rngO 0 d1).bind fun g16 =>
 (forN (m_l_schedule_b1 x13) (([] : (List Int)), q10.2) g16).bind fun s18 =>
 some (s18.1, s18.2)
def m_l_legs_b1  (s4 : ((List Int) × (List Int))) (x15 : (Int × Int)) : Option ((List Int) × (List Int)) :=
 (m_l_pick s4.2 ((x15.2 - x15.1) + (1 : Int))).bind fun q42 =>
 (app s4.1 (x15.1 + q42.1)).bind fun x45 =>
 some (x45, q42.2)
def m_l_legs (d0 : (List Int)) (d1 : (List (Int × Int))) : Option ((List Int) × (List Int)) :=
 (forN (m_l_legs_b1) (([] : (List Int)), d0) d1).bind fun s4 =>
 some (s4.1, s4.2)
def m_l_gate_hours_b1  (s49 : ((List Int) × (List Int))) (x53 : Int) : Option ((List Int) × (List Int)) :=
 (m_l_pick s49.1 (201 : Int)).bind fun q55 =>
 (if (!(s49.2.contains q55.1)) = true then ((app s49.2 q55.1).bind fun x59 =>
 some x59) else (some s49.2) : Option (List Int)).bind fun s58 =>
 some (q55.2, s58)
def m_l_gate_hours_b2 (hole72 : Int) (s74 : (List Int)) (x85 : Int) : Option (List Int) :=
 if (!(decide (x85 = hole72))) = true then ((app s74 x85).bind fun x94 =>
 some x94) else (some s74)
def m_l_gate_hours (d0 : (List Int)) (d1 : Int) (d2 : Int) (d3 : Int) : Option ((List Int) × (List Int)) :=
 (m_l_pick d0 (4 : Int)).bind fun q5 =>
 pyLet ((d1 - q5.1) : Int) fun start8 =>
 (m_l_pick q5.2 (4 : Int)).bind fun q9 =>
 pyLet (((d1 + d2) + q9.1) : Int) fun stop12 =>
 (if (decide (d3 = (0 : Int))) = true then ((m_l_pick q9.2 (4 : Int)).bind fun q14 =>
 pyLet ((start8 + q14.1) : Int) fun start17 =>
 (m_l_pick q14.2 (4 : Int)).bind fun q18 =>
 pyLet ((stop12 - q18.1) : Int) fun stop21 =>
 some (q18.2, start17, stop21)) else (some (q9.2, start8, stop12)) : Option ((List Int) × Int × Int)).bind fun s13 =>
 (rngL (max (0 : Int) s13.2.1) ((min (200 : Int) s13.2.2) + (1 : Int))).bind fun g22 =>
 (m_l_pick s13.1 (4 : Int)).bind fun q38 =>
 (at_ [(4 : Int), (4 : Int), (4 : Int), (13 : Int)] q38.1).bind fun x41 =>
 (m_l_pick q38.2 x41).bind fun q44 =>
 (rngO 0 q44.1).bind fun g47 =>
 (forN (m_l_gate_hours_b1) (q44.2, g22) g47).bind fun s49 =>
 (if (decide (d3 = (0 : Int))) = true then ((m_l_pick s49.1 (d2 + (3 : Int))).bind fun q69 =>
 pyLet ((d1 + q69.1) : Int) fun hole72 =>
 (forN (m_l_gate_hours_b2 hole72) ([] : (List Int)) s49.2).bind fun s74 =>
 some (q69.2, s74)) else (some (s49.1, s49.2)) : Option ((List Int) × (List Int))).bind fun s62 =>
 some (s62.2, s62.1)
def m_l_number (d0 : (List Int)) (d1 : Int) (d2 : Int) (d3 : Int) (d4 : Int) (d5 : Int) : Option (Int × (List Int)) :=
 (m_l_pick d0 (5 : Int)).bind fun q7 =>
 (at_ [(2 : Int), (0 : Int)] d3).bind fun x17 =>
 (mul d2 (q7.1 - x17)).bind fun x20 =>
 pyLet ((d1 + x20) : Int) fun numberhere21 =>
 (( if (decide (d3 = (0 : Int))) = true then (m_l_pick q7.2 (4 : Int)).bind fun q24 => some ((decide (q24.1 = (0 : Int))), q24.2) else some (false, q7.2) : Option (Bool × (List Int))).bind fun b23 =>
 if b23.1 = true then ((m_l_pick b23.2 ((d5 - d4) + (1 : Int))).bind fun q27 =>
 pyLet ((d4 + q27.1) : Int) fun numberhere30 =>
 some (q27.2, numberhere30)) else (some (b23.2, numberhere21)) : Option ((List Int) × Int)).bind fun s22 =>
 some ((max d4 (min d5 s22.2)), s22.1)
def m_l_plain (d0 : (List Int)) (d1 : (List (Int × Int))) (d2 : (List Int)) (d3 : Int) : Option (((List Nat) × Int × Int × Int × (List Int)) × (List Int)) :=
 pyLet ((d1.length : Int) : Int) fun count5 =>
 (m_l_pick d0 (7 : Int)).bind fun q6 =>
 (if (decide (count5 = (1 : Int))) = true then (pyLet (((3 : Int) + (q6.1 % (4 : Int))) : Int) fun kind10 =>
 some kind10) else (some q6.1) : Option Int).bind fun s9 =>
 (m_l_pick q6.2 count5).bind fun q11 =>
 if (decide ((4 : Int) < s9)) = true then
 ((at_ d1 q11.1).bind fun x14 =>
 (at_ [(0 : Int), x14.1] (s9 - (5 : Int))).bind fun x32 =>
 (at_ d1 q11.1).bind fun x35 =>
 (at_ [(0 : Int), x35.2] (s9 - (5 : Int))).bind fun x53 =>
 (at_ [([103, 97, 116, 101] : List Nat), ([98, 97, 114] : List Nat)] (s9 - (5 : Int))).bind fun x64 =>
 (at_ d2 q11.1).bind fun x67 =>
 (m_l_gate_hours q11.2 (x67 + x32) (x53 - x32) d3).bind fun q68 =>
 some ((x64, q11.1, q11.1, (0 : Int), q68.1), q68.2))
 else
 if (decide ((2 : Int) < s9)) = true then
 ((at_ d2 q11.1).bind fun x85 =>
 (at_ d1 q11.1).bind fun x86 =>
 (at_ d2 q11.1).bind fun x96 =>
 (at_ [(x85 + x86.2), x96] (s9 - (3 : Int))).bind fun x105 =>
 (at_ [([98, 121] : List Nat), ([102, 114, 111, 109] : List Nat)] (s9 - (3 : Int))).bind fun x116 =>
 (at_ [(1 : Int), (-(1 : Int))] (s9 - (3 : Int))).bind fun x127 =>
 (m_l_number q11.2 x105 x127 d3 (0 : Int) (200 : Int)).bind fun q130 =>
 some ((x116, q11.1, q11.1, q130.1, ([] : (List Int))), q130.2))
 else
 (m_l_pick q11.2 (count5 - (1 : Int))).bind fun q148 =>
 (mod ((q11.1 + (1 : Int)) + q148.1) count5).bind fun x151 =>
 (at_ d2 x151).bind fun x152 =>
 (at_ d2 q11.1).bind fun x153 =>
 pyLet ((x152 - x153) : Int) fun late154 =>
 (at_ d1 q11.1).bind fun x155 =>
 (at_ d1 x151).bind fun x165 =>
 (at_ d1 q11.1).bind fun x175 =>
 (at_ [(late154 - x155.2), late154, ((late154 + x165.2) - x175.1)] s9).bind fun x193 =>
 (at_ [([97, 102, 116, 101, 114] : List Nat), ([119, 105, 116, 104] : List Nat), ([108, 97, 110, 100, 115] : List Nat)] s9).bind fun x204 =>
 (at_ [(-(1 : Int)), (1 : Int), (1 : Int)] s9).bind fun x215 =>
 (m_l_number q148.2 x193 x215 d3 (-(60 : Int)) (60 : Int)).bind fun q218 =>
 some ((x204, q11.1, x151, q218.1, ([] : (List Int))), q218.2)
def m_l_plains_b1 (d1 : (List (Int × Int))) (d2 : (List Int)) (q4 : (Int × (List Int))) (s26 : ((List ((List Nat) × Int × Int × Int × (List Int))) × (List Int))) (x38 : Int) : Option ((List ((List Nat) × Int × Int × Int × (List Int))) × (List Int)) :=
 (m_l_plain s26.2 d1 d2 q4.1).bind fun q47 =>
 (app s26.1 q47.1).bind fun x58 =>
 some (x58, q47.2)
def m_l_plains (d0 : (List Int)) (d1 : (List (Int × Int))) (d2 : (List Int)) : Option ((List ((List Nat) × Int × Int × Int × (List Int))) × (List Int)) :=
 (m_l_pick d0 (2 : Int)).bind fun q4 =>
 (m_l_pick q4.2 (8 : Int)).bind fun q15 =>
 (at_ [(9 : Int), (9 : Int), (9 : Int), (9 : Int), (4 : Int), (9 : Int), (9 : Int), (31 : Int)] q15.1).bind fun x18 =>
 (m_l_pick q15.2 x18).bind fun q21 =>
 (rngO 0 q21.1).bind fun g24 =>
 (forN (m_l_plains_b1 d1 d2 q4) (([] : (List ((List Nat) × Int × Int × Int × (List Int)))), q21.2) g24).bind fun s26 =>
 some (s26.1, s26.2)
def m_l_order (d0 : ((List Nat) × Int × Int × Int × (List Int))) : Option (List (Int ⊕ (List Nat) ⊕ ((List Int)))) :=
 if ((decide (d0.1 = ([103, 97, 116, 101] : List Nat))) || (decide (d0.1 = ([98, 97, 114] : List Nat)))) = true then
 ((m_Gate_init d0.2.2.2.2).bind fun q51 =>
 some ([(.inr (.inl d0.1)), (.inl d0.2.1), (.inr (.inr q51))] : (List (Int ⊕ (List Nat) ⊕ ((List Int))))))
 else
 if ((decide (d0.1 = ([98, 121] : List Nat))) || (decide (d0.1 = ([102, 114, 111, 109] : List Nat)))) = true then
 (some ([(.inr (.inl d0.1)), (.inl d0.2.1), (.inl d0.2.2.2.1)] : (List (Int ⊕ (List Nat) ⊕ ((List Int))))))
 else
 some ([(.inr (.inl d0.1)), (.inl d0.2.1), (.inl d0.2.2.1), (.inl d0.2.2.2.1)] : (List (Int ⊕ (List Nat) ⊕ ((List Int)))))
def m_l_words_b1  (s3 : (List ((List Nat) × Int))) (x13 : (List (Int ⊕ (List Nat) ⊕ ((List Int))))) : Option (List ((List Nat) × Int)) :=
 (at_ x13 (0 : Int)).bind fun x22 =>
 (asR x22).bind fun x26 =>
 (asL x26).bind fun x28 =>
 (at_ x13 (1 : Int)).bind fun x30 =>
 (asL x30).bind fun x34 =>
 (app s3 (x28, x34)).bind fun x41 =>
 some x41
def m_l_words (d0 : (List (List (Int ⊕ (List Nat) ⊕ ((List Int)))))) : Option (List ((List Nat) × Int)) :=
 (forN (m_l_words_b1) ([] : (List ((List Nat) × Int))) d0).bind fun s3 =>
 some s3
def m_l_gates_stay_b1 (d0 : (List (List (Int ⊕ (List Nat) ⊕ ((List Int)))))) (d1 : (List ((List Nat) × Int × Int × Int × (List Int)))) (s5 : Unit) (x8 : Int) : Option (Bool ⊕ Unit) :=
 (at_ d0 x8).bind fun x11 =>
 (if (!(decide ((x11.length : Int) = (3 : Int)))) = true then some true else (at_ d1 x8).bind fun x16 => (if (decide (x16.1 = ([98, 121] : List Nat))) = true then some true else (at_ d1 x8).bind fun x31 => some (decide (x31.1 = ([102, 114, 111, 109] : List Nat)))).bind fun b45 => some b45).bind fun b46 =>
 if b46 = true then
 (some (.inr ()))
 else
 (at_ d0 x8).bind fun x47 =>
 (at_ x47 (2 : Int)).bind fun x51 =>
 (asR x51).bind fun x55 =>
 (asR x55).bind fun x57 =>
 (at_ d1 x8).bind fun x71 =>
 if (!(decide (x57 = (Mi.sortI x71.2.2.2.2)))) = true then
 (some (.inl false))
 else
 some (.inr ())
def m_l_gates_stay (d0 : (List (List (Int ⊕ (List Nat) ⊕ ((List Int)))))) (d1 : (List ((List Nat) × Int × Int × Int × (List Int)))) : Option Bool :=
 (rngO 0 (d1.length : Int)).bind fun g3 =>
 (forR (m_l_gates_stay_b1 d0 d1) () g3).bind fun e4 => orR e4 fun s5 =>
 some true
def m_l_keeps (d0 : ((List Nat) × Int × Int × Int × (List Int))) (d1 : (List Int)) (d2 : (List Int)) : Option Bool :=
 (at_ d1 d0.2.1).bind fun x10 =>
 pyLet (x10 : Int) fun leaves11 =>
 (at_ d2 d0.2.1).bind fun x18 =>
 pyLet ((leaves11 + x18) : Int) fun lands19 =>
 if (decide (d0.1 = ([97, 102, 116, 101, 114] : List Nat))) = true then
 ((at_ d1 d0.2.2.1).bind fun x32 =>
 some (decide ((lands19 + d0.2.2.2.1) ≤ x32)))
 else
 if (decide (d0.1 = ([119, 105, 116, 104] : List Nat))) = true then
 ((at_ d1 d0.2.2.1).bind fun x51 =>
 some (decide (x51 ≤ (leaves11 + d0.2.2.2.1))))
 else
 if (decide (d0.1 = ([108, 97, 110, 100, 115] : List Nat))) = true then
 ((at_ d1 d0.2.2.1).bind fun x70 =>
 (at_ d2 d0.2.2.1).bind fun x77 =>
 some (decide ((x70 + x77) ≤ (lands19 + d0.2.2.2.1))))
 else
 if (decide (d0.1 = ([98, 121] : List Nat))) = true then
 (some (decide (lands19 ≤ d0.2.2.2.1)))
 else
 if (decide (d0.1 = ([102, 114, 111, 109] : List Nat))) = true then
 (some (decide (d0.2.2.2.1 ≤ leaves11)))
 else
 if (decide (d0.1 = ([103, 97, 116, 101] : List Nat))) = true then
 (some (d0.2.2.2.2.contains leaves11))
 else
 some (d0.2.2.2.2.contains lands19)
def m_l_all_within_b1 (d0 : (List Int)) (d1 : Int) (s7 : Unit) (x10 : Int) : Option (Bool ⊕ Unit) :=
 if (!(d0.contains (d1 + x10))) = true then
 (some (.inl false))
 else
 some (.inr ())
def m_l_all_within (d0 : (List Int)) (d1 : Int) (d2 : Int) (d3 : Int) : Option Bool :=
 (rngO d2 (d3 + (1 : Int))).bind fun g5 =>
 (forR (m_l_all_within_b1 d0 d1) () g5).bind fun e6 => orR e6 fun s7 =>
 some true
def m_l_always_0 (d0 : ((List Nat) × Int × Int × Int × (List Int))) (d1 : (List (Int × Int))) (d2 : (List Int)) : Option Bool :=
 pyLet (d0.2.1 : Int) fun i10 =>
 pyLet (d0.2.2.1 : Int) fun j17 =>
 if (decide (d0.1 = ([97, 102, 116, 101, 114] : List Nat))) = true then
 ((at_ d2 j17).bind fun x24 =>
 (at_ d2 i10).bind fun x25 =>
 (at_ d1 i10).bind fun x26 =>
 some (decide (((x25 + x26.2) + d0.2.2.2.1) ≤ x24)))
 else
 if (decide (d0.1 = ([119, 105, 116, 104] : List Nat))) = true then
 ((at_ d2 j17).bind fun x48 =>
 (at_ d2 i10).bind fun x49 =>
 some (decide (x48 ≤ (x49 + d0.2.2.2.1))))
 else
 if (decide (d0.1 = ([108, 97, 110, 100, 115] : List Nat))) = true then
 ((at_ d2 j17).bind fun x62 =>
 (at_ d1 j17).bind fun x63 =>
 (at_ d2 i10).bind fun x73 =>
 (at_ d1 i10).bind fun x74 =>
 some (decide ((x62 + x63.2) ≤ ((x73 + x74.1) + d0.2.2.2.1))))
 else
 if (decide (d0.1 = ([98, 121] : List Nat))) = true then
 ((at_ d2 i10).bind fun x96 =>
 (at_ d1 i10).bind fun x97 =>
 some (decide ((x96 + x97.2) ≤ d0.2.2.2.1)))
 else
 if (decide (d0.1 = ([102, 114, 111, 109] : List Nat))) = true then
 ((at_ d2 i10).bind fun x119 =>
 some (decide (d0.2.2.2.1 ≤ x119)))
 else
 if (decide (d0.1 = ([103, 97, 116, 101] : List Nat))) = true then
 ((at_ d2 i10).bind fun x132 =>
 some (d0.2.2.2.2.contains x132))
 else
 (at_ d2 i10).bind fun x145 =>
 (at_ d1 i10).bind fun x146 =>
 (at_ d1 i10).bind fun x156 =>
 (m_l_all_within d0.2.2.2.2 x145 x146.1 x156.2).bind fun q166 =>
 some q166
def m_l_always_1 (d0 : ((List Nat) × Int × Int × Int × (List Int))) (d1 : (List (Int × Int))) (d2 : (List Int)) : Option Bool :=
 pyLet (d0.2.1 : Int) fun i10 =>
 pyLet (d0.2.2.1 : Int) fun j17 =>
 if (decide (d0.1 = ([97, 102, 116, 101, 114] : List Nat))) = true then
 ((at_ d2 j17).bind fun x24 =>
 (at_ d2 i10).bind fun x25 =>
 (at_ d1 i10).bind fun x26 =>
 some (decide (((x25 + x26.2) + d0.2.2.2.1) ≤ x24)))
 else
 if (decide (d0.1 = ([119, 105, 116, 104] : List Nat))) = true then
 ((at_ d2 j17).bind fun x48 =>
 (at_ d2 i10).bind fun x49 =>
 some (decide (x48 ≤ (x49 + d0.2.2.2.1))))
 else
 if (decide (d0.1 = ([108, 97, 110, 100, 115] : List Nat))) = true then
 ((at_ d2 j17).bind fun x62 =>
 (at_ d1 j17).bind fun x63 =>
 (at_ d2 i10).bind fun x73 =>
 (at_ d1 i10).bind fun x74 =>
 some (decide ((x62 + x63.2) ≤ ((x73 + x74.1) + d0.2.2.2.1))))
 else
 if (decide (d0.1 = ([98, 121] : List Nat))) = true then
 ((at_ d2 i10).bind fun x96 =>
 (at_ d1 i10).bind fun x97 =>
 some (decide ((x96 + x97.2) ≤ d0.2.2.2.1)))
 else
 if (decide (d0.1 = ([102, 114, 111, 109] : List Nat))) = true then
 ((at_ d2 i10).bind fun x119 =>
 some (decide (d0.2.2.2.1 ≤ x119)))
 else
 if (decide (d0.1 = ([103, 97, 116, 101] : List Nat))) = true then
 ((at_ d2 i10).bind fun x132 =>
 some (d0.2.2.2.2.contains x132))
 else
 (at_ d2 i10).bind fun x145 =>
 (at_ d1 i10).bind fun x146 =>
 (at_ d1 i10).bind fun x156 =>
 (m_l_all_within d0.2.2.2.2 x145 x146.1 x156.2).bind fun q166 =>
 some q166
def m_l_spoilt (d0 : (List Int)) (d1 : (List (Int ⊕ (List Nat) ⊕ ((List Int))))) (d2 : Int) : Option ((List (Int ⊕ (List Nat) ⊕ ((List Int)))) × (List Int)) :=
 (m_l_pick d0 (4 : Int)).bind fun q4 =>
 if (decide (q4.1 = (0 : Int))) = true then
 ((m_l_pick q4.2 (4 : Int)).bind fun q14 =>
 (at_ [([110, 101, 97, 114] : List Nat), ([65, 102, 116, 101, 114] : List Nat), ([] : List Nat), ([98, 97, 114, 115] : List Nat)] q14.1).bind fun x17 =>
 (catN ([(.inr (.inl x17))] : (List (Int ⊕ (List Nat) ⊕ ((List Int))))) (Mi.cut d1 (some (1 : Int)) none)).bind fun x29 =>
 some (x29, q14.2))
 else
 if ((decide ((1 : Int) < q4.1)) && (decide ((d1.length : Int) = (4 : Int)))) = true then
 ((at_ d1 (0 : Int)).bind fun x35 =>
 (asR x35).bind fun x39 =>
 (asL x39).bind fun x41 =>
 (at_ d1 (1 : Int)).bind fun x43 =>
 (asL x43).bind fun x47 =>
 (at_ d1 (1 : Int)).bind fun x49 =>
 (asL x49).bind fun x53 =>
 (at_ d1 (1 : Int)).bind fun x55 =>
 (asL x55).bind fun x59 =>
 (m_l_pick q4.2 (4 : Int)).bind fun q68 =>
 (at_ [x53, x59, d2, (-(1 : Int))] q68.1).bind fun x71 =>
 (at_ d1 (3 : Int)).bind fun x74 =>
 (asL x74).bind fun x78 =>
 some (([(.inr (.inl x41)), (.inl x47), (.inl x71), (.inl x78)] : (List (Int ⊕ (List Nat) ⊕ ((List Int))))), q68.2))
 else
 (at_ d1 (0 : Int)).bind fun x85 =>
 (asR x85).bind fun x89 =>
 (asL x89).bind fun x91 =>
 (m_l_pick q4.2 (4 : Int)).bind fun q100 =>
 (at_ [(-(1 : Int)), d2, (d2 + (1 : Int)), (99 : Int)] q100.1).bind fun x103 =>
 (catN ([(.inr (.inl x91)), (.inl x103)] : (List (Int ⊕ (List Nat) ⊕ ((List Int))))) (Mi.cut d1 (some (2 : Int)) none)).bind fun x115 =>
 some (x115, q100.2)
def m_l_places_b1 (d1 : Int) (s25 : ((List Int) × (List Int))) (x35 : Int) : Option ((List Int) × (List Int)) :=
 (m_l_pick s25.2 d1).bind fun q44 =>
 (app s25.1 q44.1).bind fun x47 =>
 some (x47, q44.2)
def m_l_places (d0 : (List Int)) (d1 : Int) : Option ((List Int) × (List Int)) :=
 (m_l_pick d0 (4 : Int)).bind fun q10 =>
 (at_ [(0 : Int), (0 : Int), (1 : Int), (2 : Int)] q10.1).bind fun x13 =>
 if (decide (d1 = (0 : Int))) = true then
 (some (([] : (List Int)), q10.2))
 else
 (rngO 0 x13).bind fun g23 =>
 (forN (m_l_places_b1 d1) (([] : (List Int)), q10.2) g23).bind fun s25 =>
 some (s25.1, s25.2)
def m_l_spoil_b1 (d3 : Int) (s15 : ((List Int) × (List (List (Int ⊕ (List Nat) ⊕ ((List Int))))))) (x18 : Int) : Option ((List Int) × (List (List (Int ⊕ (List Nat) ⊕ ((List Int)))))) :=
 (at_ s15.2 x18).bind fun x22 =>
 (m_l_spoilt s15.1 x22 d3).bind fun q26 =>
 (setAt s15.2 x18 q26.1).bind fun x31 =>
 some (q26.2, x31)
def m_l_spoil (d0 : (List Int)) (d1 : (List (List (Int ⊕ (List Nat) ⊕ ((List Int)))))) (d2 : (List Int)) (d3 : Int) : Option ((List (List (Int ⊕ (List Nat) ⊕ ((List Int))))) × (List Int)) :=
 (forN (m_l_spoil_b1 d3) (d0, d1) d2).bind fun s15 =>
 some (s15.2, s15.1)
def m_l_asks_b1 (d0 : ((List Nat) × Int × Int × Int × (List Int))) (i11 : Int) (s162 : (Int × Int)) (s194 : Unit) (x197 : Int) : Option ((Int × Int) ⊕ Unit) :=
 (m_l_all_within d0.2.2.2.2 x197 s162.1 s162.2).bind fun q206 =>
 if q206 = true then
 (some (.inl (i11, x197)))
 else
 some (.inr ())
def m_l_asks (d0 : ((List Nat) × Int × Int × Int × (List Int))) (d1 : (List (Int × Int))) (d2 : (List Int)) (d3 : Int) : Option (Int × Int) :=
 pyLet (d0.2.1 : Int) fun i11 =>
 pyLet (d0.2.2.1 : Int) fun j18 =>
 if (decide (d0.1 = ([97, 102, 116, 101, 114] : List Nat))) = true then
 ((at_ d2 i11).bind fun x25 =>
 (at_ d1 i11).bind fun x26 =>
 some (j18, ((x25 + x26.2) + d0.2.2.2.1)))
 else
 if (decide (d0.1 = ([119, 105, 116, 104] : List Nat))) = true then
 ((at_ d2 j18).bind fun x53 =>
 some (i11, (x53 - d0.2.2.2.1)))
 else
 if (decide (d0.1 = ([108, 97, 110, 100, 115] : List Nat))) = true then
 ((at_ d2 j18).bind fun x71 =>
 (at_ d1 j18).bind fun x72 =>
 (at_ d1 i11).bind fun x82 =>
 some (i11, (((x71 + x72.2) - x82.1) - d0.2.2.2.1)))
 else
 if (decide (d0.1 = ([98, 121] : List Nat))) = true then
 ((at_ d2 i11).bind fun x118 =>
 (at_ d1 i11).bind fun x119 =>
 (at_ [(0 : Int), (d3 + (1 : Int))] (Mi.bI (decide (d0.2.2.2.1 < (x118 + x119.2))))).bind fun x135 =>
 some (i11, x135))
 else
 if (decide (d0.1 = ([102, 114, 111, 109] : List Nat))) = true then
 (some (i11, d0.2.2.2.1))
 else
 pyLet ((0 : Int) : Int) fun low160 =>
 pyLet ((0 : Int) : Int) fun high161 =>
 (if (decide (d0.1 = ([98, 97, 114] : List Nat))) = true then ((at_ d1 i11).bind fun x169 =>
 pyLet (x169.1 : Int) fun low179 =>
 (at_ d1 i11).bind fun x180 =>
 pyLet (x180.2 : Int) fun high190 =>
 some (low179, high190)) else (some (low160, high161)) : Option (Int × Int)).bind fun s162 =>
 (at_ d2 i11).bind fun x191 =>
 (rngO x191 (201 : Int)).bind fun g192 =>
 (forR (m_l_asks_b1 d0 i11 s162) () g192).bind fun e193 => orR e193 fun s194 =>
 some (i11, (d3 + (1 : Int)))
def m_l_walk_b1  (s6 : (List Int)) (x18 : (Int × Int)) : Option (List Int) :=
 (app s6 (0 : Int)).bind fun x27 =>
 some x27
def m_l_walk_b3  (s42 : (List Int)) (x55 : Int) : Option (List Int) :=
 (m_l_int_0 x55).bind fun q64 =>
 if (!q64) = true then ((app s42 x55).bind fun x67 =>
 some x67) else (some s42)
def m_l_walk_b2 (d0 : (List ((List Nat) × Int × Int × Int × (List Int)))) (d1 : (List (Int × Int))) (d3 : Int) (s31 : (List Int)) (x34 : (Int × Int × Int)) : Option ((Option (List Int)) ⊕ (List Int)) :=
 ( if (!true) = true then some true else  if (!(decide ((3 : Int) = (3 : Int)))) = true then some true else (forN (m_l_walk_b3) ([] : (List Int)) [x34.1, x34.2.1, x34.2.2]).bind fun s42 => some (decide ((0 : Int) < (s42.length : Int))) : Option Bool).bind fun b39 =>
 if b39 = true then
 (some (.inl (none : (Option (List Int)))))
 else
 ( if (decide (x34.2.2 < (0 : Int))) = true then some true else  if (decide ((d0.length : Int) ≤ x34.2.2)) = true then some true else (lMax s31).bind fun x83 => some (decide (d3 < x83)) : Option Bool).bind fun b70 =>
 if b70 = true then
 (some (.inl (none : (Option (List Int)))))
 else
 (at_ d0 x34.2.2).bind fun x90 =>
 (m_l_asks x90 d1 s31 d3).bind fun q99 =>
 if (!(decide (q99 = (x34.1, x34.2.1)))) = true then
 (some (.inl (none : (Option (List Int)))))
 else
 (at_ s31 x34.1).bind fun x133 =>
 if (decide (x34.2.1 ≤ x133)) = true then
 (some (.inl (none : (Option (List Int)))))
 else
 (setAt s31 x34.1 x34.2.1).bind fun x146 =>
 some (.inr x146)
def m_l_walk (d0 : (List ((List Nat) × Int × Int × Int × (List Int)))) (d1 : (List (Int × Int))) (d2 : (List (Int × Int × Int))) (d3 : Int) : Option (Option (List Int)) :=
 (forN (m_l_walk_b1) ([] : (List Int)) d1).bind fun s6 =>
 (forR (m_l_walk_b2 d0 d1 d3) s6 d2).bind fun e30 => orR e30 fun s31 =>
 some (some s31)
def m_l_schedule_holds_b2 (d0 : (List Int)) (x12 : ((List Nat) × Int × Int × Int × (List Int))) (s42 : (List (List Int))) (x56 : (List Int)) : Option (List (List Int)) :=
 (m_l_keeps x12 d0 x56).bind fun q65 =>
 if (!q65) = true then ((app s42 x56).bind fun x68 =>
 some x68) else (some s42)
def m_l_schedule_holds_b1 (d0 : (List Int)) (d2 : (List (Int × Int))) (d3 : Int) (d4 : (List (List Int))) (s8 : Unit) (x12 : ((List Nat) × Int × Int × Int × (List Int))) : Option (Bool ⊕ Unit) :=
 (m_l_asks x12 d2 d0 d3).bind fun q19 =>
 ((at_ d0 q19.1).bind fun x37 => if (decide (x37 < q19.2)) = true then some true else (m_l_always_0 x12 d2 d0).bind fun q38 => some (!q38) : Option Bool).bind fun b24 =>
 if b24 = true then
 (some (.inl false))
 else
 (forN (m_l_schedule_holds_b2 d0 x12) ([] : (List (List Int))) d4).bind fun s42 =>
 if (decide ((0 : Int) < (s42.length : Int))) = true then
 (some (.inl false))
 else
 some (.inr ())
def m_l_schedule_holds (d0 : (List Int)) (d1 : (List ((List Nat) × Int × Int × Int × (List Int)))) (d2 : (List (Int × Int))) (d3 : Int) (d4 : (List (List Int))) : Option Bool :=
 (lMax d0).bind fun x6 =>
 if (decide (d3 < x6)) = true then
 (some false)
 else
 (forR (m_l_schedule_holds_b1 d0 d2 d3 d4) () d1).bind fun e7 => orR e7 fun s8 =>
 some true
def m_l_answer_holds_b1  (s71 : (List Int)) (x86 : Int) : Option (List Int) :=
 (m_l_int_0 x86).bind fun q95 =>
 if (!q95) = true then ((app s71 x86).bind fun x98 =>
 some x98) else (some s71)
def m_l_answer_holds (d0 : ((Option (List Int)) × (List (Int × Int × Int)))) (d1 : (List ((List Nat) × Int × Int × Int × (List Int)))) (d2 : (List (Int × Int))) (d3 : Int) (d4 : (List (List Int))) : Option Bool :=
 if ((!true) || ((!(decide ((2 : Int) = (2 : Int)))) || (!true))) = true then
 (some false)
 else
 (m_l_walk d1 d2 d0.2 d3).bind fun q20 =>
 if q20.isNone = true then
 (some false)
 else
 if d0.1.isNone = true then
 ((q20).bind fun x39 =>
 (lMax x39).bind fun x41 =>
 some (decide (d3 < x41)))
 else
 ( if (!(d0.1.isSome && true)) = true then some true else (d0.1).bind fun x57 => (q20).bind fun x59 => if (!(decide (x57 = x59))) = true then some true else (d0.1).bind fun x68 => (forN (m_l_answer_holds_b1) ([] : (List Int)) x68).bind fun s71 => some (decide ((0 : Int) < (s71.length : Int))) : Option Bool).bind fun b42 =>
 if b42 = true then
 (some false)
 else
 (d0.1).bind fun x108 =>
 (m_l_schedule_holds x108 d1 d2 d3 d4).bind fun q110 =>
 some q110
def m_l_not_below_b1 (d2 : (List (Int × Int))) (d3 : (List Int)) (s9 : (List Unit)) (x21 : ((List Nat) × Int × Int × Int × (List Int))) : Option (List Unit) :=
 (m_l_always_1 x21 d2 d3).bind fun q31 =>
 if (!q31) = true then ((app s9 ()).bind fun x34 =>
 some x34) else (some s9)
def m_l_not_below_b2 (d0 : (Option (List Int))) (d3 : (List Int)) (s39 : (List Int)) (x51 : Int) : Option (List Int) :=
 (at_ d3 x51).bind fun x60 =>
 (d0).bind fun x61 =>
 (at_ x61 x51).bind fun x63 =>
 if (decide (x60 < x63)) = true then ((app s39 x51).bind fun x64 =>
 some x64) else (some s39)
def m_l_not_below (d0 : (Option (List Int))) (d1 : (List ((List Nat) × Int × Int × Int × (List Int)))) (d2 : (List (Int × Int))) (d3 : (List Int)) (d4 : Int) : Option Bool :=
 ((lMax d3).bind fun x7 => if (decide (d4 < x7)) = true then some true else (forN (m_l_not_below_b1 d2 d3) ([] : (List Unit)) d1).bind fun s9 => some (decide ((0 : Int) < (s9.length : Int))) : Option Bool).bind fun b6 =>
 if b6 = true then
 (some true)
 else
 if d0.isNone = true then
 (some false)
 else
 (rngO 0 (d3.length : Int)).bind fun g37 =>
 (forN (m_l_not_below_b2 d0 d3) ([] : (List Int)) g37).bind fun s39 =>
 some (decide ((s39.length : Int) = (0 : Int)))
def m_l_lowered (d0 : (List Int)) (d1 : (List Int)) : Option ((List Int) × (List Int)) :=
 (m_l_pick d0 (d1.length : Int)).bind fun q11 =>
 (at_ d1 q11.1).bind fun x14 =>
 (m_l_pick q11.2 x14).bind fun q15 =>
 (setAt d1 q11.1 q15.1).bind fun x18 =>
 some (x18, q15.2)
def m_l_told (d0 : (List (Int × Int))) (d1 : (List (List (Int ⊕ (List Nat) ⊕ ((List Int)))))) (d2 : Int) (d3 : Int) : Option (Option ((Option (List Int)) × (List (Int × Int × Int)))) :=
 (if (decide (d2 = (0 : Int))) = true then ((m_least_schedule (d0, d1).1 (d0, d1).2 (48 : Int)).bind fun q56 =>
 some q56) else ((if (decide (d2 = (1 : Int))) = true then ((m_least_schedule (d0, d1).1 (d0, d1).2 d3).bind fun q93 =>
 some q93) else ((m_least_schedule (d0, d1).1 (d0, d1).2 d3).bind fun q122 =>
 some q122) : Option ((Option (List Int)) × (List (Int × Int × Int)))).bind fun s67 =>
 some s67) : Option ((Option (List Int)) × (List (Int × Int × Int)))).bind fun s30 =>
 ( if (!(decide ((d0, d1).1 = d0))) = true then some true else (m_l_words (d0, d1).2).bind fun q154 => (m_l_words d1).bind fun q166 => (guardO ((q154.all fun z179 => ((Mi.okS z179.1) && true)) && (q166.all fun z180 => ((Mi.okS z180.1) && true)))).bind fun z181 => some (!(decide (q154 = q166))) : Option Bool).bind fun b133 =>
 if b133 = true then
 (some (none : (Option ((Option (List Int)) × (List (Int × Int × Int))))))
 else
 some (some s30)
def m_l_rivals_hold_b1 (d1 : (Option (List Int))) (d2 : (List ((List Nat) × Int × Int × Int × (List Int)))) (d3 : (List (Int × Int))) (d4 : Int) (s11 : ((List Int) × (List Int))) (s46 : Unit) (x49 : (List Int)) : Option ((Bool × (List Int)) ⊕ Unit) :=
 (m_l_not_below d1 d2 d3 x49 d4).bind fun q54 =>
 if (!q54) = true then
 (some (.inl (false, s11.1)))
 else
 some (.inr ())
def m_l_rivals_hold (d0 : (List Int)) (d1 : (Option (List Int))) (d2 : (List ((List Nat) × Int × Int × Int × (List Int)))) (d3 : (List (Int × Int))) (d4 : Int) (d5 : (List (List Int))) : Option (Bool × (List Int)) :=
 (at_ d5 (0 : Int)).bind fun x7 =>
 (if d1.isSome = true then ((d1).bind fun x14 =>
 (m_l_lowered d0 x14).bind fun q16 =>
 some (q16.2, q16.1)) else (some (d0, x7)) : Option ((List Int) × (List Int))).bind fun s11 =>
 (cat d5 [s11.2]).bind fun x32 =>
 (forR (m_l_rivals_hold_b1 d1 d2 d3 d4 s11) () x32).bind fun e45 => orR e45 fun s46 =>
 some (true, s11.1)
def m_l_refused (d0 : (List (Int × Int))) (d1 : (List (List (Int ⊕ (List Nat) ⊕ ((List Int)))))) (d2 : Int) : Option Bool :=
 (m_least_schedule_x d0 d1 (48 : Int)).bind fun q21 => tryX q21 (fun y28 => (((m_l_int_0 y28).bind fun q40 => if q40 = true then some (decide (y28 = d2)) else some false : Option Bool).bind fun b39 =>
 some b39)) fun q32 =>
 some false
def m_l_refused_by_base (d0 : (List (Int × Int))) (d1 : (List (List (Int ⊕ (List Nat) ⊕ ((List Int)))))) : Option Bool :=
 (m_least_schedule_x d0 d1 (48 : Int)).bind fun q20 => tryX q20 (fun y27 => (if ((!true) || (!true)) = true then
 (some false)
 else
 some (!false))) fun q31 =>
 some false
def m_l_nothing_holds  : Option Bool :=
 (m_least_schedule ([] : (List (Int × Int))) ([] : (List (List (Int ⊕ (List Nat) ⊕ ((List Int)))))) (48 : Int)).bind fun q14 =>
 ( if (!true) = true then some true else  if (!(decide ((2 : Int) = (2 : Int)))) = true then some true else (q14.1).bind fun x44 => if (!(decide (x44 = ([] : (List Int))))) = true then some true else some (!(decide (q14.2 = ([] : (List (Int × Int × Int)))))) : Option Bool).bind fun b22 =>
 if b22 = true then
 (some false)
 else
 ( if (q14.1.isSome && true) = true then  if true = true then (m_l_refused ([] : (List (Int × Int))) [([(.inr (.inl ([98, 121] : List Nat))), (.inl (0 : Int)), (.inl (5 : Int))] : (List (Int ⊕ (List Nat) ⊕ ((List Int)))))] (0 : Int)).bind fun q92 => some q92 else some false else some false : Option Bool).bind fun b55 =>
 some b55
def m_law_b1  (s58 : (List (List (Int ⊕ (List Nat) ⊕ ((List Int)))))) (x69 : ((List Nat) × Int × Int × Int × (List Int))) : Option (List (List (Int ⊕ (List Nat) ⊕ ((List Int))))) :=
 (m_l_order x69).bind fun q81 =>
 (app s58 q81).bind fun x86 =>
 some x86
def m_law_b2  (s90 : (List Int)) (x102 : (Int × Int)) : Option (List Int) :=
 (app s90 x102.1).bind fun x117 =>
 some x117
def m_law_b3  (s149 : (List Int)) (x161 : (Int × Int)) : Option (List Int) :=
 (app s149 x161.2).bind fun x176 =>
 some x176
def m_law_b4  (s192 : (List (Int × Int))) (x205 : Int) : Option (List (Int × Int)) :=
 (app s192 (x205, x205)).bind fun x219 =>
 some x219
def m_law_b5  (s264 : ((List Int) × (List Int))) (x279 : Int) : Option ((List Int) × (List Int)) :=
 (m_l_pick s264.2 (5 : Int)).bind fun q288 =>
 (app s264.1 (max (0 : Int) ((x279 + q288.1) - (2 : Int)))).bind fun x291 =>
 some (x291, q288.2)
def m_law_b6 (q10 : ((List (Int × Int)) × (List Int))) (q27 : ((List Int) × (List Int))) (q48 : ((List ((List Nat) × Int × Int × Int × (List Int))) × (List Int))) (s58 : (List (List (Int ⊕ (List Nat) ⊕ ((List Int)))))) (q235 : (Int × (List Int))) (x260 : Int) (s264 : ((List Int) × (List Int))) (q311 : ((List Int) × (List Int))) (q326 : ((List (List (Int ⊕ (List Nat) ⊕ ((List Int))))) × (List Int))) (s410 : (List Int)) (x414 : ((List (Int × Int)) × (List (List Int)))) : Option (Bool ⊕ (List Int)) :=
 ((if (decide ((0 : Int) < (q311.1.length : Int))) = true then (((lMin q311.1).bind fun x431 => (m_l_refused q10.1 q326.1 x431).bind fun q432 => if (!q432) = true then some true else (m_l_refused_by_base q10.1 q326.1).bind fun q435 => some (!q435) : Option Bool).bind fun b430 =>
 if b430 = true then
 (some (.inl false))
 else
 some (.inr ())) else (some (.inr ())) : Option (Bool ⊕ Unit))).bind fun s428 => orL s428 fun s429 =>
 (m_l_told x414.1 s58 q235.1 x260).bind fun q451 =>
 (q451).bind fun x498 =>
 (m_l_answer_holds x498 q48.1 x414.1 x260 x414.2).bind fun q500 =>
 if (!q500) = true then
 (some (.inl false))
 else
 (m_l_rivals_hold s410 x498.1 q48.1 x414.1 x260 [q27.1, s264.1]).bind fun q574 =>
 if (!q574.1) = true then
 (some (.inl false))
 else
 (guardO (decide (x498.2.length < big))).bind fun z579 =>
 (if x498.1.isSome = true then ((x498.1).bind fun x583 =>
 (app x583 (99 : Int)).bind fun x585 =>
 some ()) else (some ()) : Option Unit).bind fun s580 =>
 some (.inr q574.2)
def m_law (d0 : (List Int)) : Option Bool :=
 (m_l_hand d0 (0 : Int)).bind fun q2 =>
 (m_l_sailings q2).bind fun q10 =>
 (m_l_hand d0 (1 : Int)).bind fun q18 =>
 (m_l_schedule q18 (q10.1.length : Int)).bind fun q27 =>
 (m_l_hand d0 (3 : Int)).bind fun q39 =>
 (m_l_plains q39 q10.1 q27.1).bind fun q48 =>
 (forN (m_law_b1) ([] : (List (List (Int ⊕ (List Nat) ⊕ ((List Int)))))) q48.1).bind fun s58 =>
 (forN (m_law_b2) ([] : (List Int)) q10.1).bind fun s90 =>
 (m_l_hand d0 (2 : Int)).bind fun q123 =>
 (m_l_legs q123 q10.1).bind fun q134 =>
 (forN (m_law_b3) ([] : (List Int)) q10.1).bind fun s149 =>
 (forN (m_law_b4) ([] : (List (Int × Int))) s90).bind fun s192 =>
 (m_l_hand d0 (4 : Int)).bind fun q222 =>
 (m_l_pick q222 (4 : Int)).bind fun q235 =>
 (lMax q27.1).bind fun x238 =>
 (m_l_pick q235.2 (3 : Int)).bind fun q239 =>
 (m_l_pick q239.2 (31 : Int)).bind fun q242 =>
 (m_l_pick q242.2 (97 : Int)).bind fun q245 =>
 (at_ [(48 : Int), (min (96 : Int) (x238 + q239.1)), q242.1, q245.1] q235.1).bind fun x260 =>
 (forN (m_law_b5) (([] : (List Int)), q245.2) q27.1).bind fun s264 =>
 (m_l_hand d0 (5 : Int)).bind fun q297 =>
 (m_l_places q297 (s58.length : Int)).bind fun q311 =>
 (m_l_spoil q311.2 s58 q311.1 (q10.1.length : Int)).bind fun q326 =>
 (forR (m_law_b6 q10 q27 q48 s58 q235 x260 s264 q311 q326) s264.2 [(q10.1, [q134.1, s90, s149]), (s192, [s90]), (q10.1, [q134.1, s90, s149])]).bind fun e409 => orR e409 fun s410 =>
 ((m_l_gates_stay s58 q48.1).bind fun q587 => if q587 = true then (m_l_nothing_holds ).bind fun q590 => some q590 else some false : Option Bool).bind fun b586 =>
 some b586
end Mi
namespace Mi
def Hd (h : List Int) : Prop := ∃ a b c : Int, h = [a, b, c] ∧ 0 ≤ a
theorem mod_ok {i j : Int} (h : 0 < j) : mod i j = some (i % j) := if_pos h
theorem fdiv_ok {i j : Int} (h : 0 < j) (h2 : j < 2 ^ 200) : fdiv i j = some (i / j) := if_pos ⟨h, h2⟩
theorem mul_okL {i j : Int} (h : -(2 ^ 64) < i) (h2 : i < 2 ^ 64) : mul i j = some (i * j) := if_pos (.inl ⟨h, h2⟩)
theorem app_ok {α : Type} {xs : List α} {x : α} (h : xs.length < big) : app xs x = some (xs ++ [x]) := if_pos h
theorem rngO_ok {lo hi : Int} (h1 : -(2 ^ 60) ≤ lo) (h2 : lo < 2 ^ 60) (h3 : -(2 ^ 60) ≤ hi) (h4 : hi < 2 ^ 60) : rngO lo hi = some (rng lo hi) := if_pos ⟨⟨h1, h2⟩, h3, h4⟩
theorem at0 {α : Type} (a : α) (l : List α) : at_ (a :: l) 0 = some a := by
 unfold at_ ixN
 rw [if_pos (by decide), if_pos (by rw [List.length_cons]; omega)]
 rfl
theorem at_nat {α : Type} {xs : List α} {j : Nat} {x : α} (h : xs[j]? = some x) : at_ xs (j : Int) = some x := by
 have hj : j < xs.length := (List.getElem?_eq_some_iff.mp h).1
 unfold at_ ixN
 rw [if_pos (by omega), if_pos (by omega), Int.toNat_natCast]
 exact h
theorem at_int {α : Type} {xs : List α} {i : Int} {x : α} (h0 : 0 ≤ i) (h : xs[i.toNat]? = some x) : at_ xs i = some x := by
 have e : i = (i.toNat : Int) := by omega
 rw [e]; exact at_nat h
theorem at_some {α : Type} {xs : List α} {i : Int} (h0 : 0 ≤ i) (h1 : i < xs.length) : ∃ x, at_ xs i = some x ∧ xs[i.toNat]? = some x := by
 have hj : i.toNat < xs.length := by omega
 exact ⟨xs[i.toNat], at_int h0 (List.getElem?_eq_getElem hj), List.getElem?_eq_getElem hj⟩
theorem hand_ok (s : List Int) (k : Int) (hk : 0 ≤ k) : ∃ h, m_l_hand s k = some h ∧ Hd h := by
 simp only [m_l_hand, pyLet]
 have hc : ∃ c, (if decide (k < (s.length : Int)) = true then (at_ s k).bind fun x3 => some x3 else some 0 : Option Int) = some c := by
   by_cases h : k < (s.length : Int)
   · rw [if_pos (decide_eq_true h)]
     obtain ⟨x, hx, _⟩ := at_some hk h
     rw [hx]
     exact ⟨x, rfl⟩
   · rw [if_neg (by simpa using h)]
     exact ⟨0, rfl⟩
 obtain ⟨c, hc⟩ := hc
 rw [hc]
 show ∃ h, (Option.bind (if decide (c < 0) = true then some (1 - 2 * c) else some c) _) = some h ∧ Hd h
 have hd : ∃ d, (if decide (c < 0) = true then some (1 - 2 * c) else some c) = some d ∧ 0 ≤ d := by
   by_cases h : c < 0
   · rw [if_pos (decide_eq_true h)]
     exact ⟨_, rfl, by omega⟩
   · rw [if_neg (by simpa using h)]
     exact ⟨c, rfl, by omega⟩
 obtain ⟨d, hd, h0⟩ := hd
 rw [hd]
 show ∃ h, (Option.bind (if decide (((10 : Int) ^ 18) ≤ d) = true then some d else some 0) _) = some h ∧ Hd h
 by_cases h : ((10 : Int) ^ 18) ≤ d
 · rw [if_pos (decide_eq_true h)]
   exact ⟨_, rfl, _, _, _, rfl, h0⟩
 · rw [if_neg (by simpa using h)]
   exact ⟨_, rfl, _, _, _, rfl, by omega⟩
theorem pick_ok {h : List Int} (hh : Hd h) {n : Int} (hn : 1 ≤ n) (hN : n < 2 ^ 200) : ∃ r h', m_l_pick h n = some (r, h') ∧ 0 ≤ r ∧ r < n ∧ Hd h' := by
 obtain ⟨a, b, c, rfl, ha⟩ := hh
 have i0 : ∀ x y z : Int, at_ [x, y, z] 0 = some x := fun _ _ _ => rfl
 have i1 : ∀ x y z : Int, at_ [x, y, z] 1 = some y := fun _ _ _ => rfl
 have i2 : ∀ x y z : Int, at_ [x, y, z] 2 = some z := fun _ _ _ => rfl
 have s0 : ∀ x y z u : Int, setAt [x, y, z] 0 u = some [u, y, z] := fun _ _ _ _ => rfl
 have s2 : ∀ x y z u : Int, setAt [x, y, z] 2 u = some [x, y, u] := fun _ _ _ _ => rfl
 unfold m_l_pick pyLet
 rw [if_neg (by simp; omega)]
 simp only [i0, i1, i2, s0, s2, Option.bind_some]
 by_cases h : 0 < a
 · rw [if_pos (decide_eq_true h), mod_ok (by omega)]
   simp only [Option.bind_some]
   rw [fdiv_ok (by omega) hN]
   simp only [Option.bind_some, s0]
   exact ⟨_, _, rfl, Int.emod_nonneg _ (by omega), Int.emod_lt_of_pos _ (by omega), _, _, _, rfl, Int.ediv_nonneg ha (by omega)⟩
 · rw [if_neg (by simpa using h)]
   have m1 := Int.emod_nonneg (b + 7919 * (c + 1) + 13) (show (2147483647 : Int) ≠ 0 by decide)
   have m2 := Int.emod_lt_of_pos (b + 7919 * (c + 1) + 13) (show (0 : Int) < 2147483647 by decide)
   rw [mul_okL (by omega) (by omega)]
   simp only [Option.bind_some]
   have m3 := Int.emod_nonneg ((b + 7919 * (c + 1) + 13) % 2147483647 * ((b + 7919 * (c + 1) + 13) % 2147483647 + 48271)) (show (2147483629 : Int) ≠ 0 by decide)
   have m4 := Int.emod_lt_of_pos ((b + 7919 * (c + 1) + 13) % 2147483647 * ((b + 7919 * (c + 1) + 13) % 2147483647 + 48271)) (show (0 : Int) < 2147483629 by decide)
   rw [mul_okL (by omega) (by omega)]
   simp only [Option.bind_some]
   rw [mod_ok (by omega)]
   exact ⟨_, _, rfl, Int.emod_nonneg _ (by omega), Int.emod_lt_of_pos _ (by omega), _, _, _, rfl, ha⟩
theorem rng_nil {lo hi : Int} (h : hi ≤ lo) : rng lo hi = [] := by
 unfold rng
 have e : (hi - lo).toNat = 0 := by omega
 rw [e]; rfl
theorem rng_cons {lo hi : Int} (h : lo < hi) : rng lo hi = lo :: rng (lo + 1) hi := by
 unfold rng
 have e : (hi - lo).toNat = (hi - (lo + 1)).toNat + 1 := by omega
 rw [e, List.range_succ_eq_map, List.map_cons, List.map_map]
 congr 1
 · omega
 · apply List.map_congr_left
   intro k _
   show lo + ((k + 1 : Nat) : Int) = lo + 1 + (k : Int)
   omega
theorem rng_length (lo hi : Int) : (rng lo hi).length = (hi - lo).toNat := by unfold rng; rw [List.length_map, List.length_range]
theorem mem_rng {lo hi x : Int} : x ∈ rng lo hi ↔ lo ≤ x ∧ x < hi := by
 unfold rng
 rw [List.mem_map]
 constructor
 · rintro ⟨k, hk, rfl⟩
   rw [List.mem_range] at hk
   omega
 · intro h
   exact ⟨(x - lo).toNat, List.mem_range.mpr (by omega), by omega⟩
theorem at_app {α : Type} (pre : List α) (x : α) (post : List α) : at_ (pre ++ x :: post) (pre.length : Int) = some x := at_nat (by
 rw [List.getElem?_append_right (Nat.le_refl _), Nat.sub_self]; rfl)
theorem forN_cons {α σ : Type} (f : σ → α → Option σ) (s : σ) (x : α) (xs : List α) : forN f s (x :: xs) = (f s x).bind fun s' => forN f s' xs := rfl
theorem forR_step {α σ ρ : Type} {f : σ → α → Option (ρ ⊕ σ)} {s s' : σ} {x : α} {xs : List α} (h : f s x = some (.inr s')) : forR f s (x :: xs) = forR f s' xs := by
 show (f s x).bind _ = _
 rw [h]; rfl
theorem forR_all {α ρ : Type} {f : Unit → α → Option (ρ ⊕ Unit)} : ∀ {xs : List α}, (∀ x ∈ xs, f () x = some (.inr ())) → forR f () xs = some (.inr ())
 | [], _ => rfl
 | x :: xs, h => by
   rw [forR_step (h x (List.mem_cons_self ..))]
   exact forR_all fun y hy => h y (List.mem_cons_of_mem _ hy)
theorem forN_flat {α β : Type} {f : List β → α → Option (List β)} (h : α → List β) (h1 : ∀ x, (h x).length ≤ 1) : ∀ {xs : List α} {acc : List β}, acc.length + xs.length ≤ big → (∀ acc x, x ∈ xs → acc.length < big → f acc x = some (acc ++ h x)) → forN f acc xs = some (acc ++ xs.flatMap h)
 | [], acc, _, _ => by rw [List.flatMap_nil, List.append_nil]; rfl
 | x :: xs, acc, hb, hf => by
   rw [List.length_cons] at hb
   rw [forN_cons, hf acc x (List.mem_cons_self ..) (by omega), Option.bind_some, forN_flat h h1 (by rw [List.length_append]; have := h1 x; omega) fun a y hy => hf a y (List.mem_cons_of_mem _ hy), List.flatMap_cons, List.append_assoc]
theorem enumF_mem {α : Type} : ∀ (k : Int) (xs : List α) {p : Int × α}, p ∈ enumF k xs → p.2 ∈ xs
 | _, [], _, h => by cases h
 | k, y :: ys, p, h => by
   rcases List.mem_cons.mp h with rfl | h
   · exact List.mem_cons_self ..
   · exact List.mem_cons_of_mem _ (enumF_mem (k + 1) ys h)
theorem sortI_self {xs : List Int} (h : xs.Pairwise (· ≤ ·)) : sortI xs = xs := List.mergeSort_of_pairwise (List.Pairwise.imp (fun z => decide_eq_true z) h)
theorem at_mem {α : Type} {xs : List α} {i : Int} (h0 : 0 ≤ i) (h1 : i < xs.length) : ∃ x, at_ xs i = some x ∧ x ∈ xs := by
 obtain ⟨x, e, g⟩ := at_some h0 h1
 exact ⟨x, e, List.mem_of_getElem? g⟩
theorem guard_ok {c : Bool} (h : c = true) : guardO c = some () := if_pos h
theorem bd {α β : Type} {m : Option α} {f : α → Option β} {x : α} {r : Option β} (h : m = some x) (k : f x = r) : m.bind f = r := by rw [h]; exact k
theorem le_big {n : Nat} (h : n ≤ 100000) : n ≤ big := Nat.le_trans h (by decide)
theorem lt_big {n : Nat} (h : n ≤ 100000) : n < big := Nat.lt_of_le_of_lt h (by decide)
theorem ift {α : Type} {b : Bool} {x y r : Option α} (h : b = true) (k : x = r) : (if b = true then x else y) = r := by rw [if_pos h]; exact k
theorem iff' {α : Type} {b : Bool} {x y r : Option α} (h : b = false) (k : y = r) : (if b = true then x else y) = r := by rw [h, if_neg Bool.false_ne_true]; exact k
theorem enumF_map {α β : Type} (g : α → β) : ∀ (k : Int) (xs : List α), enumF k (xs.map g) = (enumF k xs).map fun p => (p.1, g p.2)
 | _, [] => rfl
 | k, x :: xs => by show (k, g x) :: enumF (k + 1) (xs.map g) = (k, g x) :: _; rw [enumF_map g (k + 1) xs]
theorem flat_sing {α β : Type} (g : α → β) : ∀ xs : List α, (xs.flatMap fun x => [g x]) = xs.map g
 | [] => rfl
 | x :: xs => by rw [List.flatMap_cons, flat_sing g xs]; rfl
theorem forN_ind {α σ : Type} {f : σ → α → Option σ} (P : List α → σ → Prop) {xs : List α} {s0 : σ} (h0 : P [] s0) (h : ∀ pre x suf s, xs = pre ++ x :: suf → P pre s → ∃ s', f s x = some s' ∧ P (pre ++ [x]) s') : ∃ e, forN f s0 xs = some e ∧ P xs e := by
 have key : ∀ (suf pre : List α) (s : σ), xs = pre ++ suf → P pre s → ∃ e, forN f s suf = some e ∧ P xs e := by
   intro suf
   induction suf with
   | nil => intro pre s e p; rw [List.append_nil] at e; subst e; exact ⟨s, rfl, p⟩
   | cons x suf ih =>
     intro pre s e p
     obtain ⟨s', e1, p1⟩ := h pre x suf s e p
     obtain ⟨r, e2, p2⟩ := ih (pre ++ [x]) s' (by rw [e, List.append_assoc]; rfl) p1
     exact ⟨r, by rw [forN_cons, e1]; exact e2, p2⟩
 exact key xs [] s0 rfl h0
theorem mem_mid {α : Type} {xs pre suf : List α} {x : α} (e : xs = pre ++ x :: suf) : x ∈ xs := by rw [e]; exact List.mem_append_right _ (List.mem_cons_self ..)
theorem rng_mid {lo hi : Int} {pre suf : List Int} {x : Int} (e : rng lo hi = pre ++ x :: suf) : x = lo + pre.length ∧ pre = rng lo x ∧ suf = rng (x + 1) hi ∧ x < hi := by
 induction pre generalizing lo with
 | nil =>
   by_cases h : lo < hi
   · rw [rng_cons h] at e
     obtain ⟨rfl, e2⟩ := List.cons.inj e
     exact ⟨by simp, by rw [rng_nil (Int.le_refl _)], e2.symm, h⟩
   · rw [rng_nil (by omega)] at e; cases e
 | cons y pre ih =>
   by_cases h : lo < hi
   · rw [rng_cons h] at e
     obtain ⟨rfl, e2⟩ := List.cons.inj e
     obtain ⟨h1, h2, h3, h4⟩ := ih e2
     have hl : lo < x := by rw [h1]; omega
     exact ⟨by rw [h1, List.length_cons]; omega, by rw [rng_cons hl, ← h2], h3, h4⟩
   · rw [rng_nil (by omega)] at e; cases e
theorem setAt_ok {α : Type} {xs : List α} {i : Int} {x : α} (h0 : 0 ≤ i) (h1 : i < xs.length) : setAt xs i x = some (xs.set i.toNat x) := by
 unfold setAt ixN
 rw [if_pos h0, if_pos h1]; rfl
theorem at_get {α : Type} {xs : List α} {i : Int} {d : α} (h0 : 0 ≤ i) (h1 : i < xs.length) : at_ xs i = some (xs[i.toNat]?.getD d) := by
 obtain ⟨x, e, g⟩ := at_some h0 h1
 rw [e, g]; rfl
theorem bdE {α β : Type} {m : Option α} {f : α → Option β} {x : α} {P : β → Prop} (h : m = some x) (k : ∃ r, f x = some r ∧ P r) : ∃ r, m.bind f = some r ∧ P r := by rw [h]; exact k
theorem bf {b : Bool} (h : ¬ b = true) : b = false := by cases b with
 | false => rfl
 | true => exact absurd rfl h
theorem rngL_ok {lo hi : Int} (h1 : -(2 ^ 60) ≤ lo) (h2 : lo < 2 ^ 60) (h3 : -(2 ^ 60) ≤ hi) (h4 : hi < 2 ^ 60) (h5 : (hi - lo).toNat ≤ 1000000) : rngL lo hi = some (rng lo hi) := by
 unfold rngL
 exact if_pos ⟨⟨h1, h2⟩, ⟨h3, h4⟩, h5⟩
theorem rep_flat {α : Type} (x : α) : ∀ n : Nat, (List.replicate n [x]).flatten = List.replicate n x
 | 0 => rfl
 | n + 1 => by rw [List.replicate_succ, List.flatten_cons, rep_flat x n, List.replicate_succ]; rfl
theorem repL_one {α : Type} (x : α) {n : Nat} (h : n ≤ 100000) : repL [x] (n : Int) = some (List.replicate n x) := by
 unfold repL
 have h2 : [x].length * ((n : Int)).toNat ≤ big := by
   rw [List.length_singleton, Nat.one_mul, Int.toNat_natCast]; exact le_big h
 rw [if_pos ⟨by omega, by omega, h2⟩, Int.toNat_natCast, rep_flat]
theorem bdP {α β γ : Type} {m : Option α} {f : α → Option (β × γ)} {x : α} {P : β → γ → Prop} (h : m = some x) (k : ∃ r h', f x = some (r, h') ∧ P r h') : ∃ r h', m.bind f = some (r, h') ∧ P r h' := by rw [h]; exact k
theorem iftP {β γ : Type} {b : Bool} {x y : Option (β × γ)} {P : β → γ → Prop} (h : b = true) (k : ∃ r h', x = some (r, h') ∧ P r h') : ∃ r h', (if b = true then x else y) = some (r, h') ∧ P r h' := by rw [if_pos h]; exact k
theorem iffP {β γ : Type} {b : Bool} {x y : Option (β × γ)} {P : β → γ → Prop} (h : b = false) (k : ∃ r h', y = some (r, h') ∧ P r h') : ∃ r h', (if b = true then x else y) = some (r, h') ∧ P r h' := by rw [h, if_neg Bool.false_ne_true]; exact k
theorem ltE {α β : Type} {e : α} {f : α → Option β} {r : Option β} (k : f e = r) : pyLet e f = r := k
theorem ltP' {α β γ : Type} {e : α} {f : α → Option (β × γ)} {P : β → γ → Prop} (k : ∃ r h', f e = some (r, h') ∧ P r h') : ∃ r h', pyLet e f = some (r, h') ∧ P r h' := k
theorem fmax (xs : List Int) : ∀ a : Int, (xs.foldl max a = a ∨ xs.foldl max a ∈ xs) ∧ a ≤ xs.foldl max a ∧ ∀ y ∈ xs, y ≤ xs.foldl max a := by
 induction xs with
 | nil => intro a; exact ⟨.inl rfl, Int.le_refl _, fun y h => nomatch h⟩
 | cons x xs ih =>
   intro a
   obtain ⟨h1, h2, h3⟩ := ih (max a x)
   show (xs.foldl max (max a x) = a ∨ _) ∧ a ≤ xs.foldl max (max a x) ∧ _
   refine ⟨?_, by omega, fun y hy => ?_⟩
   · rcases h1 with h1 | h1
     · by_cases hax : x ≤ a
       · exact .inl (by rw [h1]; omega)
       · refine .inr (List.mem_cons.mpr (.inl ?_)); show xs.foldl max (max a x) = x; rw [h1]; omega
     · exact .inr (List.mem_cons_of_mem _ h1)
   · show y ≤ xs.foldl max (max a x)
     rcases List.mem_cons.mp hy with rfl | hy
     · omega
     · exact h3 y hy
theorem lMax_is {xs : List Int} {m : Int} (h : lMax xs = some m) : 0 < xs.length ∧ m ∈ xs ∧ ∀ y ∈ xs, y ≤ m := by
 cases xs with
 | nil => cases h
 | cons x xs =>
   obtain rfl : (x :: xs).foldl max x = m := Option.some.inj h
   obtain ⟨h1, h2, h3⟩ := fmax (x :: xs) x
   refine ⟨Nat.succ_pos _, ?_, h3⟩
   rcases h1 with h1 | h1
   · rw [h1]; exact List.mem_cons_self ..
   · exact h1
abbrev UU := Int ⊕ (List Nat) ⊕ (List Int)
abbrev Pl := (List Nat) × Int × Int × Int × (List Int)
def wA : List Nat := [97, 102, 116, 101, 114]
def wW : List Nat := [119, 105, 116, 104]
def wL : List Nat := [108, 97, 110, 100, 115]
def wY : List Nat := [98, 121]
def wF : List Nat := [102, 114, 111, 109]
def wG : List Nat := [103, 97, 116, 101]
def wB : List Nat := [98, 97, 114]
def kpo (w : List Nat) (lv ld sj lj num : Int) (hs : List Int) : Bool :=
 if decide (w = wA) = true then decide (ld + num ≤ sj) else if decide (w = wW) = true then decide (sj ≤ lv + num) else if decide (w = wL) = true then decide (sj + lj ≤ ld + num) else
 if decide (w = wY) = true then decide (ld ≤ num) else if decide (w = wF) = true then decide (num ≤ lv) else if decide (w = wG) = true then hs.contains lv else hs.contains ld
def gt (xs : List Int) (i : Int) : Int := xs[i.toNat]?.getD 0
def kp (sch legs : List Int) (p : Pl) : Bool := kpo p.1 (gt sch p.2.1) (gt sch p.2.1 + gt legs p.2.1) (gt sch p.2.2.1) (gt legs p.2.2.1) p.2.2.2.1 p.2.2.2.2
structure OkP (n : Nat) (p : Pl) : Prop where
 w : p.1 = wA ∨ p.1 = wW ∨ p.1 = wL ∨ p.1 = wY ∨ p.1 = wF ∨ p.1 = wG ∨ p.1 = wB
 i0 : 0 ≤ p.2.1
 i1 : p.2.1 < n
 j0 : 0 ≤ p.2.2.1
 j1 : p.2.2.1 < n
 ne : p.1 = wA ∨ p.1 = wW ∨ p.1 = wL → p.2.1 ≠ p.2.2.1
 hr : ∀ x ∈ p.2.2.2.2, 0 ≤ x ∧ x ≤ 200
theorem at_gt {xs : List Int} {i : Int} {n : Nat} (h : xs.length = n) (h0 : 0 ≤ i) (h1 : i < n) : at_ xs i = some (gt xs i) := at_get h0 (by omega)
theorem keeps_ok {n : Nat} {p : Pl} {sch legs : List Int} (h : OkP n p) (hs : sch.length = n) (hl : legs.length = n) : m_l_keeps p sch legs = some (kp sch legs p) := by
 obtain ⟨w, i, j, num, hrs⟩ := p
 obtain ⟨hw, i0, i1, j0, j1, _, _⟩ := h
 dsimp only at hw i0 i1 j0 j1
 unfold m_l_keeps
 refine bd (at_gt hs i0 i1) (ltE (bd (at_gt hl i0 i1) (ltE ?_)))
 rcases hw with rfl | rfl | rfl | rfl | rfl | rfl | rfl
 · exact ift rfl (bd (at_gt hs j0 j1) rfl)
 · exact iff' rfl (ift rfl (bd (at_gt hs j0 j1) rfl))
 · exact iff' rfl (iff' rfl (ift rfl (bd (at_gt hs j0 j1) (bd (at_gt hl j0 j1) rfl))))
 · exact iff' rfl (iff' rfl (iff' rfl (ift rfl rfl)))
 · exact iff' rfl (iff' rfl (iff' rfl (iff' rfl (ift rfl rfl))))
 · exact iff' rfl (iff' rfl (iff' rfl (iff' rfl (iff' rfl (ift rfl rfl)))))
 · exact iff' rfl (iff' rfl (iff' rfl (iff' rfl (iff' rfl (iff' rfl rfl)))))
def ordf (p : Pl) : List UU :=
 if ((decide (p.1 = wG)) || (decide (p.1 = wB))) = true then [.inr (.inl p.1), .inl p.2.1, .inr (.inr (sortI p.2.2.2.2))] else
 if ((decide (p.1 = wY)) || (decide (p.1 = wF))) = true then [.inr (.inl p.1), .inl p.2.1, .inl p.2.2.2.1] else [.inr (.inl p.1), .inl p.2.1, .inl p.2.2.1, .inl p.2.2.2.1]
theorem order_ok (p : Pl) : m_l_order p = some (ordf p) := by
 unfold m_l_order ordf
 show (if ((decide (p.1 = wG)) || (decide (p.1 = wB))) = true then _ else if ((decide (p.1 = wY)) || (decide (p.1 = wF))) = true then _ else _) = _
 cases ((decide (p.1 = wG)) || (decide (p.1 = wB))) with
 | true => rfl
 | false =>
   cases ((decide (p.1 = wY)) || (decide (p.1 = wF))) <;> rfl
theorem enumF_get {α : Type} : ∀ (k : Int) (xs : List α) {q : Int × α}, q ∈ enumF k xs → ∃ j : Nat, q.1 = k + j ∧ xs[j]? = some q.2
 | _, [], _, h => nomatch h
 | k, x :: xs, q, h => by
   rcases List.mem_cons.mp (show q ∈ (k, x) :: enumF (k + 1) xs from h) with rfl | h
   · exact ⟨0, by simp, rfl⟩
   · obtain ⟨j, e1, e2⟩ := enumF_get (k + 1) xs h
     exact ⟨j + 1, by rw [e1]; omega, e2⟩
theorem head_of (p : Pl) : ∃ r, ordf p = .inr (.inl p.1) :: .inl p.2.1 :: r := by
 unfold ordf
 split
 · exact ⟨_, rfl⟩
 · split
   · exact ⟨_, rfl⟩
   · exact ⟨_, rfl⟩
theorem words_ok (ps : List Pl) (hn : ps.length ≤ 1000) : m_l_words (ps.map ordf) = some (ps.map fun p => (p.1, p.2.1)) := by
 unfold m_l_words
 have gen : ∀ (L : List Pl) (acc : List ((List Nat) × Int)), acc.length + L.length ≤ 100000 → forN m_l_words_b1 acc (L.map ordf) = some (acc ++ L.map fun p => (p.1, p.2.1)) := by
   intro L
   induction L with
   | nil => intro acc _; show some acc = some (acc ++ []); rw [List.append_nil]
   | cons p L ih =>
     intro acc hlen
     have hlen' : acc.length + (L.length + 1) ≤ 100000 := hlen
     obtain ⟨r, e⟩ := head_of p
     rw [List.map_cons, forN_cons, e, List.map_cons]
     refine bd (x := acc ++ [(p.1, p.2.1)]) ?_ ?_
     · unfold m_l_words_b1
       exact bd (x := .inr (.inl p.1)) (at0 _ _) (bd (x := .inl p.1) rfl (bd (x := p.1) rfl (bd (x := .inl p.2.1) (at_nat (j := 1) rfl) (bd (x := p.2.1) rfl (bd (app_ok (lt_big (by omega))) rfl)))))
     · rw [ih _ (by rw [List.length_append]; show acc.length + 1 + L.length ≤ _; omega), List.append_assoc]; rfl
 exact bd (gen ps [] (by show 0 + ps.length ≤ 100000; omega)) (by rw [List.nil_append])
theorem guard_w {n : Nat} {ps : List Pl} (hp : ∀ p ∈ ps, OkP n p) : ((ps.map fun p => (p.1, p.2.1)).all fun z => ((okS z.1) && true)) = true := by
 rw [List.all_eq_true]
 intro z hz
 obtain ⟨p, hm, rfl⟩ := List.mem_map.mp hz
 rcases (hp p hm).w with e | e | e | e | e | e | e <;> (show (okS p.1 && true) = true; rw [e]; rfl)
theorem stay_ok {n : Nat} {ps : List Pl} (hp : ∀ p ∈ ps, OkP n p) (hn : ps.length ≤ 1000) : m_l_gates_stay (ps.map ordf) ps = some true := by
 unfold m_l_gates_stay
 refine bd (rngO_ok (by decide) (by decide) (by omega) (by omega)) (bd (forR_all fun x hx => ?_) rfl)
 obtain ⟨x0, x1⟩ := mem_rng.mp hx
 obtain ⟨p, hp1, hp2⟩ : ∃ p, ps[x.toNat]? = some p ∧ p ∈ ps := by
   have hlt : x.toNat < ps.length := by omega
   exact ⟨ps[x.toNat], List.getElem?_eq_getElem hlt, List.getElem_mem hlt⟩
 have e1 : at_ (ps.map ordf) x = some (ordf p) := at_int x0 (by rw [List.getElem?_map, hp1]; rfl)
 have e2 : at_ ps x = some p := at_int x0 hp1
 unfold m_l_gates_stay_b1
 refine bd e1 ?_
 obtain ⟨w, i, j, num, hrs⟩ := p
 rcases (hp _ hp2).w with e | e | e | e | e | e | e <;> (have e : w = _ := e; subst e)
 · exact bd (x := true) (ift rfl rfl) (ift rfl rfl)
 · exact bd (x := true) (ift rfl rfl) (ift rfl rfl)
 · exact bd (x := true) (ift rfl rfl) (ift rfl rfl)
 · exact bd (x := true) (iff' rfl (bd e2 (bd (x := true) (ift rfl rfl) rfl))) (ift rfl rfl)
 · exact bd (x := true) (iff' rfl (bd e2 (bd (x := true) (iff' rfl (bd e2 rfl)) rfl))) (ift rfl rfl)
 · refine bd (x := false) (iff' rfl (bd e2 (bd (x := false) (iff' rfl (bd e2 rfl)) rfl))) (iff' rfl ?_)
   exact bd e1 (bd (x := .inr (.inr (sortI hrs))) rfl (bd (x := .inr (sortI hrs)) rfl (bd (x := sortI hrs) rfl (bd e2 (iff' (by rw [decide_eq_true rfl]; rfl) rfl)))))
 · refine bd (x := false) (iff' rfl (bd e2 (bd (x := false) (iff' rfl (bd e2 rfl)) rfl))) (iff' rfl ?_)
   exact bd e1 (bd (x := .inr (.inr (sortI hrs))) rfl (bd (x := .inr (sortI hrs)) rfl (bd (x := sortI hrs) rfl (bd e2 (iff' (by rw [decide_eq_true rfl]; rfl) rfl)))))
theorem eight {x : Int} (h0 : 0 ≤ x) (h1 : x < 8) {a b c d e f g h : Int} : ∃ y, at_ [a, b, c, d, e, f, g, h] x = some y ∧ y ∈ [a, b, c, d, e, f, g, h] := at_mem h0 h1
def OkS (n : Nat) (l : List (Int × Int)) : Prop := l.length = n ∧ ∀ q ∈ l, 0 ≤ q.1 ∧ q.1 ≤ q.2 ∧ q.2 ≤ 100
theorem sailings_ok {h : List Int} (hh : Hd h) : ∃ l h' n, m_l_sailings h = some (l, h') ∧ OkS n l ∧ 1 ≤ n ∧ n ≤ 12 ∧ Hd h' := by
 unfold m_l_sailings
 obtain ⟨a, h1, e1, a0, a1, hh1⟩ := pick_ok hh (n := 8) (by decide) (by decide)
 obtain ⟨m, e2, hm⟩ := eight a0 a1 (a := 6) (b := 6) (c := 6) (d := 6) (e := 6) (f := 6) (g := 6) (h := 12)
 have hm' : m = 6 ∨ m = 12 := by simp only [List.mem_cons, List.not_mem_nil, or_false] at hm; omega
 obtain ⟨b, h2, e3, b0, b1, hh2⟩ := pick_ok hh1 (n := m) (by omega) (by omega)
 obtain ⟨c, h3, e4, c0, c1, hh3⟩ := pick_ok hh2 (n := 8) (by decide) (by decide)
 obtain ⟨sp, e5, hsp⟩ := eight c0 c1 (a := 10) (b := 10) (c := 10) (d := 10) (e := 10) (f := 10) (g := 4) (h := 61)
 have hsp' : sp = 10 ∨ sp = 4 ∨ sp = 61 := by simp only [List.mem_cons, List.not_mem_nil, or_false] at hsp; omega
 obtain ⟨⟨h4, l⟩, e6, q1, q2, q3⟩ := forN_ind (f := m_l_sailings_b1 sp) (xs := rng 0 (1 + b)) (s0 := (h3, [])) (fun pre st => Hd st.1 ∧ st.2.length = pre.length ∧ ∀ q ∈ st.2, 0 ≤ q.1 ∧ q.1 ≤ q.2 ∧ q.2 ≤ 100) ⟨hh3, rfl, fun x hx => nomatch hx⟩ (fun pre x suf st hx hst => by
   obtain ⟨s1, s2⟩ := st
   obtain ⟨hs, hl, hq⟩ := hst
   have hl : s2.length = pre.length := hl
   have hlen : pre.length ≤ 100 := by
     have := congrArg List.length hx
     rw [rng_length, List.length_append] at this
     omega
   obtain ⟨u, k1, f1, u0, u1, hk1⟩ := pick_ok hs (n := sp) (by omega) (by omega)
   obtain ⟨v, k2, f2, v0, v1, hk2⟩ := pick_ok hk1 (n := sp - u) (by omega) (by omega)
   refine ⟨(k2, s2 ++ [(u, u + v)]), bd f1 (bd f2 (bd (app_ok (xs := s2) (lt_big (by omega))) rfl)), hk2, ?_, fun q hq2 => ?_⟩
   · show (s2 ++ [(u, u + v)]).length = _
     rw [List.length_append, List.length_append, hl]; rfl
   · rcases List.mem_append.mp (show q ∈ s2 ++ [(u, u + v)] from hq2) with z | z
     · exact hq q z
     · rw [List.mem_singleton.mp z]
       exact ⟨u0, by show u ≤ u + v; omega, by show u + v ≤ 100; omega⟩)
 refine ⟨l, h4, (1 + b).toNat, bd e1 (bd e2 (bd e3 (ltE (bd e4 (bd e5 (bd (rngO_ok (by decide) (by decide) (by show -(2 ^ 60) ≤ 1 + b; omega) (by show 1 + b < 2 ^ 60; omega)) (bd e6 rfl))))))), ⟨?_, q3⟩, by omega, by omega, q1⟩
 have : l.length = (rng 0 (1 + b)).length := q2
 rw [this, rng_length]; omega
def Nums (n : Nat) (c : Int) (l : List Int) : Prop := l.length = n ∧ ∀ x ∈ l, 0 ≤ x ∧ x ≤ c
theorem nums_snoc {n : Nat} {c x : Int} {l : List Int} (h : Nums n c l) (x0 : 0 ≤ x) (x1 : x ≤ c) : Nums (n + 1) c (l ++ [x]) :=
 ⟨by rw [List.length_append, h.1]; rfl, fun y hy => by
   rcases List.mem_append.mp hy with z | z
   · exact h.2 y z
   · rw [List.mem_singleton.mp z]; exact ⟨x0, x1⟩⟩
theorem schedule_ok {h : List Int} (hh : Hd h) {n : Nat} (hn : n ≤ 12) : ∃ l h', m_l_schedule h (n : Int) = some (l, h') ∧ Nums n 100 l ∧ Hd h' := by
 unfold m_l_schedule
 obtain ⟨a, h1, e1, a0, a1, hh1⟩ := pick_ok hh (n := 4) (by decide) (by decide)
 obtain ⟨m, e2, hm⟩ : ∃ y, at_ [(61 : Int), (31 : Int), (9 : Int), (97 : Int)] a = some y ∧ y ∈ [(61 : Int), (31 : Int), (9 : Int), (97 : Int)] := at_mem a0 a1
 have hm' : 1 ≤ m ∧ m ≤ 97 := by simp only [List.mem_cons, List.not_mem_nil, or_false] at hm; omega
 obtain ⟨⟨l, h2⟩, e3, q1, q2⟩ := forN_ind (f := m_l_schedule_b1 m) (xs := rng 0 (n : Int)) (s0 := ([], h1)) (fun pre st => Nums pre.length 100 st.1 ∧ Hd st.2) ⟨⟨rfl, fun x hx => nomatch hx⟩, hh1⟩ (fun pre x suf st hx hst => by
   obtain ⟨s1, s2⟩ := st
   obtain ⟨hq, hs⟩ := hst
   have hlen : pre.length ≤ 100 := by
     have := congrArg List.length hx
     rw [rng_length, List.length_append] at this
     omega
   have hl : s1.length = pre.length := hq.1
   obtain ⟨u, k1, f1, u0, u1, hk1⟩ := pick_ok hs (n := m) (by omega) (by omega)
   refine ⟨(s1 ++ [u], k1), bd f1 (bd (app_ok (xs := s1) (lt_big (by omega))) rfl), ?_, hk1⟩
   rw [List.length_append]
   exact nums_snoc hq u0 (by omega))
 refine ⟨l, h2, bd e1 (bd e2 (bd (rngO_ok (by decide) (by decide) (by omega) (by omega)) (bd e3 rfl))), ?_, q2⟩
 have : Nums (rng 0 (n : Int)).length 100 l := q1
 rw [rng_length] at this
 have e : ((n : Int) - 0).toNat = n := by omega
 rw [e] at this; exact this
theorem hours_ok {h : List Int} (hh : Hd h) {near wide kept : Int} (n0 : 0 ≤ near) (n1 : near ≤ 1000) (w0 : 0 ≤ wide) (w1 : wide ≤ 200) : ∃ l h', m_l_gate_hours h near wide kept = some (l, h') ∧ (∀ x ∈ l, 0 ≤ x ∧ x ≤ 200) ∧ Hd h' := by
 unfold m_l_gate_hours
 obtain ⟨a, h1, e1, a0, a1, hh1⟩ := pick_ok hh (n := 4) (by decide) (by decide)
 obtain ⟨b, h2, e2, b0, b1, hh2⟩ := pick_ok hh1 (n := 4) (by decide) (by decide)
 obtain ⟨h3, st, sp, e3, hh3, s0, s1, t0, t1⟩ : ∃ h3 st sp, (if (decide (kept = (0 : Int))) = true then ((m_l_pick h2 (4 : Int)).bind fun q14 => pyLet ((near - a + q14.1) : Int) fun start17 => (m_l_pick q14.2 (4 : Int)).bind fun q18 => pyLet ((near + wide + b - q18.1) : Int) fun stop21 => some (q18.2, start17, stop21)) else (some (h2, near - a, near + wide + b)) : Option ((List Int) × Int × Int)) = some (h3, st, sp) ∧ Hd h3 ∧ -10 ≤ st ∧ st ≤ 1310 ∧ -10 ≤ sp ∧ sp ≤ 1310 := by
   by_cases c : kept = 0
   · obtain ⟨u, k1, f1, u0, u1, hk1⟩ := pick_ok hh2 (n := 4) (by decide) (by decide)
     obtain ⟨v, k2, f2, v0, v1, hk2⟩ := pick_ok hk1 (n := 4) (by decide) (by decide)
     exact ⟨k2, _, _, ift (decide_eq_true c) (bd f1 (ltE (bd f2 (ltE rfl)))), hk2, by show -10 ≤ near - a + u; omega, by show near - a + u ≤ 1310; omega, by show -10 ≤ near + wide + b - v; omega, by show near + wide + b - v ≤ 1310; omega⟩
   · exact ⟨h2, _, _, iff' (decide_eq_false c) rfl, hh2, by omega, by omega, by omega, by omega⟩
 obtain ⟨c, h4, e4, c0, c1, hh4⟩ := pick_ok hh3 (n := 4) (by decide) (by decide)
 obtain ⟨m, e5, hm⟩ : ∃ y, at_ [(4 : Int), (4 : Int), (4 : Int), (13 : Int)] c = some y ∧ y ∈ [(4 : Int), (4 : Int), (4 : Int), (13 : Int)] := at_mem c0 c1
 have hm' : 4 ≤ m ∧ m ≤ 13 := by simp only [List.mem_cons, List.not_mem_nil, or_false] at hm; omega
 obtain ⟨d, h5, e6, d0, d1, hh5⟩ := pick_ok hh4 (n := m) (by omega) (by omega)
 have hr : (rng (max 0 st) (min 200 sp + 1)).length ≤ 300 := by rw [rng_length]; omega
 obtain ⟨⟨h6, l⟩, e7, q1, q2, q3⟩ := forN_ind (f := m_l_gate_hours_b1) (xs := rng 0 d) (s0 := (h5, rng (max 0 st) (min 200 sp + 1))) (fun pre z => Hd z.1 ∧ z.2.length ≤ 300 + pre.length ∧ ∀ x ∈ z.2, 0 ≤ x ∧ x ≤ 200) ⟨hh5, hr, fun x hx => by have := mem_rng.mp hx; omega⟩ (fun pre x suf z hx hz => by
   obtain ⟨z1, z2⟩ := z
   obtain ⟨hs, hl, hm3⟩ := hz
   have hl : z2.length ≤ 300 + pre.length := hl
   have hlen : pre.length ≤ 100 := by
     have := congrArg List.length hx
     rw [rng_length, List.length_append] at this
     omega
   obtain ⟨u, k1, f1, u0, u1, hk1⟩ := pick_ok hs (n := 201) (by decide) (by decide)
   cases hc : (!(z2.contains u)) with
   | true =>
     refine ⟨(k1, z2 ++ [u]), bd f1 (bd (ift hc (bd (app_ok (xs := z2) (lt_big (by omega))) rfl)) rfl), hk1, ?_, fun y hy => by
       rcases List.mem_append.mp (show y ∈ z2 ++ [u] from hy) with z | z
       · exact hm3 y z
       · rw [List.mem_singleton.mp z]; exact ⟨u0, by omega⟩⟩
     show (z2 ++ [u]).length ≤ _
     rw [List.length_append, List.length_append]; show z2.length + 1 ≤ 300 + (pre.length + 1); omega
   | false =>
     refine ⟨(k1, z2), bd f1 (bd (iff' hc rfl) rfl), hk1, ?_, hm3⟩
     rw [List.length_append]; show z2.length ≤ 300 + (pre.length + 1); omega)
 have ll : l.length ≤ 400 := by
   have : l.length ≤ 300 + (rng 0 d).length := q2
   rw [rng_length] at this; omega
 obtain ⟨h7, l2, e8, hh7, hl2⟩ : ∃ h7 l2, (if (decide (kept = (0 : Int))) = true then ((m_l_pick h6 (wide + (3 : Int))).bind fun q69 => pyLet ((near + q69.1) : Int) fun hole72 => (forN (m_l_gate_hours_b2 hole72) ([] : (List Int)) l).bind fun s74 => some (q69.2, s74)) else (some (h6, l)) : Option ((List Int) × (List Int))) = some (h7, l2) ∧ Hd h7 ∧ ∀ x ∈ l2, x ∈ l := by
   by_cases c : kept = 0
   · obtain ⟨u, k1, f1, u0, u1, hk1⟩ := pick_ok q1 (n := wide + 3) (by omega) (by omega)
     refine ⟨k1, _, ift (decide_eq_true c) (bd f1 (ltE (bd (forN_flat (h := fun x => if (!(decide (x = near + u))) = true then [x] else []) (fun x => by split <;> simp) (le_big (by show 0 + l.length ≤ 100000; omega)) (fun acc x hx hb => ?_)) rfl))), hk1, fun x hx => ?_⟩
     · unfold m_l_gate_hours_b2
       cases hc : (!(decide (x = near + u))) with
       | true => show ((app acc x).bind _) = some (acc ++ [x]); exact bd (app_ok hb) rfl
       | false => show some acc = some (acc ++ []); rw [List.append_nil]
     · rw [List.nil_append] at hx
       obtain ⟨y, hy, hy2⟩ := List.mem_flatMap.mp hx
       split at hy2
       · rw [List.mem_singleton.mp hy2]; exact hy
       · cases hy2
   · exact ⟨h6, l, iff' (decide_eq_false c) rfl, q1, fun x hx => hx⟩
 exact ⟨l2, h7, bd e1 (ltE (bd e2 (ltE (bd e3 (bd (rngL_ok (lo := max 0 st) (hi := min 200 sp + 1) (by omega) (by omega) (by omega) (by omega) (by omega)) (bd e4 (bd e5 (bd e6 (bd (rngO_ok (by decide) (by decide) (by omega) (by omega)) (bd e7 (bd e8 rfl))))))))))), (fun x hx => q3 x (hl2 x hx)), hh7⟩
theorem number_ok {h : List Int} (hh : Hd h) {edge sign kept lo hi : Int} (hs : sign = 1 ∨ sign = -1) (hk : kept = 0 ∨ kept = 1) (hl : lo ≤ hi) (hb : hi - lo < 1000) : ∃ x h', m_l_number h edge sign kept lo hi = some (x, h') ∧ Hd h' := by
 unfold m_l_number
 obtain ⟨a, h1, e1, a0, a1, hh1⟩ := pick_ok hh (n := 5) (by decide) (by decide)
 obtain ⟨m, e2⟩ : ∃ m, at_ [(2 : Int), (0 : Int)] kept = some m := by
   rcases hk with rfl | rfl
   · exact ⟨_, rfl⟩
   · exact ⟨_, rfl⟩
 obtain ⟨h2, x, e3, hh2⟩ : ∃ h2 x, ((( if (decide (kept = (0 : Int))) = true then (m_l_pick h1 (4 : Int)).bind fun q24 => some ((decide (q24.1 = (0 : Int))), q24.2) else some (false, h1) : Option (Bool × (List Int))).bind fun b23 => if b23.1 = true then ((m_l_pick b23.2 ((hi - lo) + (1 : Int))).bind fun q27 => pyLet ((lo + q27.1) : Int) fun numberhere30 => some (q27.2, numberhere30)) else (some (b23.2, edge + sign * (a - m))) : Option ((List Int) × Int))) = some (h2, x) ∧ Hd h2 := by
   by_cases c : kept = 0
   · obtain ⟨u, k1, f1, u0, u1, hk1⟩ := pick_ok hh1 (n := 4) (by decide) (by decide)
     by_cases d : u = 0
     · obtain ⟨v, k2, f2, v0, v1, hk2⟩ := pick_ok hk1 (n := hi - lo + 1) (by omega) (by omega)
       exact ⟨k2, _, bd (ift (decide_eq_true c) (bd f1 rfl)) (ift (decide_eq_true d) (bd f2 (ltE rfl))), hk2⟩
     · exact ⟨k1, _, bd (ift (decide_eq_true c) (bd f1 rfl)) (iff' (decide_eq_false d) rfl), hk1⟩
   · exact ⟨h1, _, bd (iff' (decide_eq_false c) rfl) (iff' rfl rfl), hh1⟩
 exact ⟨_, h2, bd e1 (bd e2 (bd (mul_okL (by omega) (by omega)) (ltE (bd e3 rfl)))), hh2⟩
theorem at2 {α : Type} {x : Int} (h0 : 0 ≤ x) (h1 : x < 2) (a b : α) : (x = 0 ∧ at_ [a, b] x = some a) ∨ (x = 1 ∧ at_ [a, b] x = some b) := by
 rcases (show x = 0 ∨ x = 1 by omega) with rfl | rfl
 · exact .inl ⟨rfl, rfl⟩
 · exact .inr ⟨rfl, rfl⟩
theorem gt_le {n : Nat} {l : List Int} (h : Nums n 100 l) (i : Int) : 0 ≤ gt l i ∧ gt l i ≤ 100 := by
 unfold gt
 cases e : l[i.toNat]? with
 | none => exact ⟨by decide, by decide⟩
 | some x => exact h.2 x (List.mem_of_getElem? e)
def lo (sp : List (Int × Int)) (i : Int) : Int := (sp[i.toNat]?.getD (0, 0)).1
def hi (sp : List (Int × Int)) (i : Int) : Int := (sp[i.toNat]?.getD (0, 0)).2
theorem at_sp {n : Nat} {sp : List (Int × Int)} (hs : OkS n sp) {i : Int} (i0 : 0 ≤ i) (i1 : i < n) : at_ sp i = some (lo sp i, hi sp i) := at_get i0 (by rw [hs.1]; exact i1)
theorem sp_le {n : Nat} {sp : List (Int × Int)} (hs : OkS n sp) (i : Int) : 0 ≤ lo sp i ∧ lo sp i ≤ hi sp i ∧ hi sp i ≤ 100 := by
 unfold lo hi
 cases e : sp[i.toNat]? with
 | none => exact ⟨by decide, by decide, by decide⟩
 | some x => exact hs.2 x (List.mem_of_getElem? e)
theorem plain_ok {h : List Int} (hh : Hd h) {n : Nat} {sch : List Int} {sp : List (Int × Int)} (hs : Nums n 100 sch) (hl : OkS n sp) (n1 : 1 ≤ n) (n2 : n ≤ 12) {kept : Int} (hk : kept = 0 ∨ kept = 1) :
   ∃ p h', m_l_plain h sp sch kept = some (p, h') ∧ OkP n p ∧ Hd h' := by
 have hlen : (sp.length : Int) = (n : Int) := by rw [hl.1]
 have at_p : ∀ {i : Int}, 0 ≤ i → i < n → at_ sp i = some (lo sp i, hi sp i) := fun {i} i0 i1 => at_sp hl i0 i1
 unfold m_l_plain
 refine ltP' ?_
 rw [hlen]
 obtain ⟨k, h1, e1, k0, k1, hh1⟩ := pick_ok hh (n := 7) (by decide) (by decide)
 refine bdP e1 ?_
 obtain ⟨kind, e2, q0, q1, q2⟩ : ∃ kind, (if (decide ((n : Int) = (1 : Int))) = true then (pyLet (((3 : Int) + (k % (4 : Int))) : Int) fun kind10 => some kind10) else (some k) : Option Int) = some kind ∧ 0 ≤ kind ∧ kind < 7 ∧ (kind ≤ 2 → 2 ≤ n) := by
   by_cases c : (n : Int) = 1
   · exact ⟨_, ift (decide_eq_true c) (ltE rfl), by omega, by omega, by omega⟩
   · exact ⟨_, iff' (decide_eq_false c) rfl, k0, k1, by omega⟩
 refine bdP e2 ?_
 obtain ⟨i, h2, e3, i0, i1, hh2⟩ := pick_ok hh1 (n := (n : Int)) (by omega) (by omega)
 refine bdP e3 ?_
 have hsi := gt_le hs i
 have hli := sp_le hl i
 by_cases c1 : 4 < kind
 · refine iftP (decide_eq_true c1) (bdP (at_p i0 i1) ?_)
   rcases at2 (x := kind - 5) (by omega) (by omega) (0 : Int) (lo sp i) with ⟨ek, f1⟩ | ⟨ek, f1⟩
   · refine bdP f1 (bdP (at_p i0 i1) (bdP (x := 0) (by rw [ek]; rfl) (bdP (x := wG) (by rw [ek]; rfl) (bdP (at_gt hs.1 i0 i1) ?_))))
     obtain ⟨l, h3, f2, hl3, hh3⟩ := hours_ok hh2 (near := gt sch i + 0) (wide := 0 - 0) (kept := kept) (by omega) (by omega) (by omega) (by omega)
     exact bdP f2 ⟨_, _, rfl, ⟨.inr (.inr (.inr (.inr (.inr (.inl rfl))))), i0, i1, i0, i1, fun z => absurd z (show ¬ (wG = wA ∨ wG = wW ∨ wG = wL) by decide), hl3⟩, hh3⟩
   · refine bdP f1 (bdP (at_p i0 i1) (bdP (x := hi sp i) (by rw [ek]; rfl) (bdP (x := wB) (by rw [ek]; rfl) (bdP (at_gt hs.1 i0 i1) ?_))))
     obtain ⟨l, h3, f2, hl3, hh3⟩ := hours_ok hh2 (near := gt sch i + lo sp i) (wide := hi sp i - lo sp i) (kept := kept) (by omega) (by omega) (by omega) (by omega)
     exact bdP f2 ⟨_, _, rfl, ⟨.inr (.inr (.inr (.inr (.inr (.inr rfl))))), i0, i1, i0, i1, fun z => absurd z (show ¬ (wB = wA ∨ wB = wW ∨ wB = wL) by decide), hl3⟩, hh3⟩
 refine iffP (decide_eq_false c1) ?_
 by_cases c2 : 2 < kind
 · refine iftP (decide_eq_true c2) (bdP (at_gt hs.1 i0 i1) (bdP (at_p i0 i1) (bdP (at_gt hs.1 i0 i1) ?_)))
   rcases (show kind - 3 = 0 ∨ kind - 3 = 1 by omega) with ek | ek
   · rw [ek]
     refine bdP (x := gt sch i + hi sp i) rfl (bdP (x := wY) rfl (bdP (x := 1) rfl ?_))
     obtain ⟨x, h3, f2, hh3⟩ := number_ok hh2 (edge := gt sch i + hi sp i) (sign := 1) (kept := kept) (lo := 0) (hi := 200) (.inl rfl) hk (by decide) (by decide)
     exact bdP f2 ⟨_, _, rfl, ⟨.inr (.inr (.inr (.inl rfl))), i0, i1, i0, i1, fun z => absurd z (show ¬ (wY = wA ∨ wY = wW ∨ wY = wL) by decide), fun x hx => nomatch hx⟩, hh3⟩
   · rw [ek]
     refine bdP (x := gt sch i) rfl (bdP (x := wF) rfl (bdP (x := -1) rfl ?_))
     obtain ⟨x, h3, f2, hh3⟩ := number_ok hh2 (edge := gt sch i) (sign := -1) (kept := kept) (lo := 0) (hi := 200) (.inr rfl) hk (by decide) (by decide)
     exact bdP f2 ⟨_, _, rfl, ⟨.inr (.inr (.inr (.inr (.inl rfl)))), i0, i1, i0, i1, fun z => absurd z (show ¬ (wF = wA ∨ wF = wW ∨ wF = wL) by decide), fun x hx => nomatch hx⟩, hh3⟩
 refine iffP (decide_eq_false c2) ?_
 have hn2 := q2 (by omega)
 obtain ⟨z, h3, f1, z0, z1, hh3⟩ := pick_ok hh2 (n := (n : Int) - 1) (by omega) (by omega)
 refine bdP f1 (bdP (mod_ok (by omega)) ?_)
 have j0 : 0 ≤ (i + 1 + z) % (n : Int) := Int.emod_nonneg _ (by omega)
 have j1 : (i + 1 + z) % (n : Int) < n := Int.emod_lt_of_pos _ (by omega)
 have jne : i ≠ (i + 1 + z) % (n : Int) := by
   by_cases q : i + 1 + z < n
   · rw [Int.emod_eq_of_lt (by omega) q]; omega
   · have e : (i + 1 + z) % (n : Int) = (i + 1 + z - n) % (n : Int) := (Int.sub_emod_right _ _).symm
     rw [e, Int.emod_eq_of_lt (by omega) (by omega)]; omega
 refine bdP (at_gt hs.1 j0 j1) (bdP (at_gt hs.1 i0 i1) (ltP' (bdP (at_p i0 i1) (bdP (at_p j0 j1) (bdP (at_p i0 i1) ?_)))))
 rcases (show kind = 0 ∨ kind = 1 ∨ kind = 2 by omega) with ek | ek | ek
 · rw [ek]
   refine bdP (x := _) rfl (bdP (x := wA) rfl (bdP (x := -1) rfl ?_))
   obtain ⟨x, h4, f2, hh4⟩ := number_ok hh3 (edge := gt sch ((i + 1 + z) % (n : Int)) - gt sch i - hi sp i) (sign := -1) (kept := kept) (lo := -60) (hi := 60) (.inr rfl) hk (by decide) (by decide)
   exact bdP f2 ⟨_, _, rfl, ⟨.inl rfl, i0, i1, j0, j1, fun _ => jne, fun x hx => nomatch hx⟩, hh4⟩
 · rw [ek]
   refine bdP (x := _) rfl (bdP (x := wW) rfl (bdP (x := 1) rfl ?_))
   obtain ⟨x, h4, f2, hh4⟩ := number_ok hh3 (edge := gt sch ((i + 1 + z) % (n : Int)) - gt sch i) (sign := 1) (kept := kept) (lo := -60) (hi := 60) (.inl rfl) hk (by decide) (by decide)
   exact bdP f2 ⟨_, _, rfl, ⟨.inr (.inl rfl), i0, i1, j0, j1, fun _ => jne, fun x hx => nomatch hx⟩, hh4⟩
 · rw [ek]
   refine bdP (x := _) rfl (bdP (x := wL) rfl (bdP (x := 1) rfl ?_))
   obtain ⟨x, h4, f2, hh4⟩ := number_ok hh3 (edge := gt sch ((i + 1 + z) % (n : Int)) - gt sch i + hi sp ((i + 1 + z) % (n : Int)) - lo sp i) (sign := 1) (kept := kept) (lo := -60) (hi := 60) (.inl rfl) hk (by decide) (by decide)
   exact bdP f2 ⟨_, _, rfl, ⟨.inr (.inr (.inl rfl)), i0, i1, j0, j1, fun _ => jne, fun x hx => nomatch hx⟩, hh4⟩
theorem plains_ok {h : List Int} (hh : Hd h) {n : Nat} {sch : List Int} {sp : List (Int × Int)} (hs : Nums n 100 sch) (hl : OkS n sp) (n1 : 1 ≤ n) (n2 : n ≤ 12) :
   ∃ ps h', m_l_plains h sp sch = some (ps, h') ∧ (∀ p ∈ ps, OkP n p) ∧ ps.length ≤ 1000 := by
 unfold m_l_plains
 obtain ⟨kept, h1, e1, k0, k1, hh1⟩ := pick_ok hh (n := 2) (by decide) (by decide)
 obtain ⟨a, h2, e2, a0, a1, hh2⟩ := pick_ok hh1 (n := 8) (by decide) (by decide)
 obtain ⟨m, e3, hm⟩ := eight a0 a1 (a := 9) (b := 9) (c := 9) (d := 9) (e := 4) (f := 9) (g := 9) (h := 31)
 have hm' : 1 ≤ m ∧ m ≤ 31 := by simp only [List.mem_cons, List.not_mem_nil, or_false] at hm; omega
 obtain ⟨b, h3, e4, b0, b1, hh3⟩ := pick_ok hh2 (n := m) (by omega) (by omega)
 obtain ⟨⟨ps, h4⟩, e5, q1, q2, q3⟩ := forN_ind (f := m_l_plains_b1 sp sch (kept, h1)) (xs := rng 0 b) (s0 := ([], h3)) (fun pre st => Hd st.2 ∧ st.1.length = pre.length ∧ ∀ p ∈ st.1, OkP n p) ⟨hh3, rfl, fun x hx => nomatch hx⟩ (fun pre x suf st hx hst => by
   obtain ⟨s1, s2⟩ := st
   obtain ⟨hs2, hq, hp⟩ := hst
   have hlen : pre.length ≤ 100 := by
     have := congrArg List.length hx
     rw [rng_length, List.length_append] at this
     omega
   have hl1 : s1.length = pre.length := hq
   obtain ⟨p, h', e, op, hh'⟩ := plain_ok hs2 hs hl n1 n2 (kept := kept) (by omega)
   refine ⟨(s1 ++ [p], h'), bd e (bd (app_ok (xs := s1) (lt_big (by omega))) rfl), hh', ?_, fun y hy => ?_⟩
   · show (s1 ++ [p]).length = _
     rw [List.length_append, List.length_append, hl1]; rfl
   · rcases List.mem_append.mp (show y ∈ s1 ++ [p] from hy) with z | z
     · exact hp y z
     · rw [List.mem_singleton.mp z]; exact op)
 refine ⟨ps, h4, bd e1 (bd e2 (bd e3 (bd e4 (bd (rngO_ok (by decide) (by decide) (by omega) (by omega)) (bd e5 rfl))))), q3, ?_⟩
 have : ps.length = (rng 0 b).length := q2
 rw [this, rng_length]; omega
theorem orRi {α σ : Type} {s : σ} {f : σ → Option α} {r : Option α} (h : f s = r) : orR (.inr s) f = r := h
theorem first_split {α : Type} (g : α → Bool) : ∀ xs : List α, (∀ x ∈ xs, g x = true) ∨ ∃ pre x suf, xs = pre ++ x :: suf ∧ (∀ y ∈ pre, g y = true) ∧ g x = false
 | [] => .inl fun x h => nomatch h
 | x :: xs => by
   cases e : g x with
   | false => exact .inr ⟨[], x, xs, rfl, (fun y h => nomatch h), e⟩
   | true =>
     rcases first_split g xs with h | ⟨pre, y, suf, h1, h2, h3⟩
     · exact .inl fun z hz => by
         rcases List.mem_cons.mp hz with rfl | hz
         · exact e
         · exact h z hz
     · exact .inr ⟨x :: pre, y, suf, by rw [h1]; rfl, fun z hz => by
         rcases List.mem_cons.mp hz with rfl | hz
         · exact e
         · exact h2 z hz, h3⟩
theorem forR_first {α ρ : Type} {f : Unit → α → Option (ρ ⊕ Unit)} {x : α} {r : ρ} {suf : List α} (hx : f () x = some (.inl r)) : ∀ {pre : List α}, (∀ y ∈ pre, f () y = some (.inr ())) → forR f () (pre ++ x :: suf) = some (.inl r)
 | [], _ => by
   show (f () x).bind _ = _
   rw [hx]; rfl
 | y :: pre, h => by
   show forR f () (y :: (pre ++ x :: suf)) = _
   rw [forR_step (h y (List.mem_cons_self ..))]
   exact forR_first hx fun z hz => h z (List.mem_cons_of_mem _ hz)
theorem enumF_app {α : Type} : ∀ (k : Int) (xs ys : List α), enumF k (xs ++ ys) = enumF k xs ++ enumF (k + xs.length) ys
 | k, [], ys => by
   have e : k + (([] : List α).length : Int) = k := by rw [List.length_nil]; omega
   rw [e]; rfl
 | k, x :: xs, ys => by
   show (k, x) :: enumF (k + 1) (xs ++ ys) = (k, x) :: (enumF (k + 1) xs ++ _)
   rw [enumF_app (k + 1) xs ys]
   have e : k + 1 + (xs.length : Int) = k + ((x :: xs).length : Int) := by rw [List.length_cons]; omega
   rw [e]
theorem all_split {α : Type} {g : α → Bool} {pre suf : List α} {x : α} (h : g x = false) : (pre ++ x :: suf).all g = false := by
 cases e : (pre ++ x :: suf).all g with
 | false => rfl
 | true =>
   rw [List.all_eq_true] at e
   rw [e x (List.mem_append_right _ (List.mem_cons_self ..))] at h
   cases h
theorem all_true {α : Type} {g : α → Bool} {xs : List α} (h : ∀ x ∈ xs, g x = true) : xs.all g = true := List.all_eq_true.mpr h
theorem orLi {ρ σ τ : Type} {s : σ} {f : σ → Option (ρ ⊕ τ)} {r : Option (ρ ⊕ τ)} (h : f s = r) : orL (.inr s) f = r := h
theorem tryLE {ε α β : Type} {y : ε} {f : ε → Option β} {g : α → Option β} {r : Option β} (h : f y = r) : tryX (.inl y) f g = r := h
def wPair : List (List Nat) := [wA, wW, wL]
def wLone : List (List Nat) := [wY, wF, wG, wB]
def in2 (n : Nat) (i : Int) : Bool := (decide ((0 : Int) ≤ i)) && (decide (i < (n : Int)))
theorem is3 {w : List Nat} {i : Int} {x : UU} {sp : List (Int × Int)} {n : Nat} (hs : sp.length = n) (hp : wPair.contains w = false) : m_is_order sp [.inr (.inl w), .inl i, x] = some (if wLone.contains w = true then in2 n i else false) := by
 subst hs
 unfold m_is_order
 refine ltE (bd (x := .inr (.inl w)) rfl (bd (x := .inl w) rfl (bd (x := w) rfl ?_)))
 cases e : wLone.contains w with
 | true => exact ift e (bd (x := .inl i) rfl (bd (x := i) rfl rfl))
 | false => exact iff' e (bd (x := .inr (.inl w)) rfl (bd (x := .inl w) rfl (bd (x := w) rfl (iff' hp rfl))))
theorem is4 {w : List Nat} {i j num : Int} {sp : List (Int × Int)} {n : Nat} (hs : sp.length = n) (hl : wLone.contains w = false) : m_is_order sp [.inr (.inl w), .inl i, .inl j, .inl num] = some (if wPair.contains w = true then in2 n i && (in2 n j && !(decide (i = j))) else false) := by
 subst hs
 unfold m_is_order
 refine ltE (bd (x := .inr (.inl w)) rfl (bd (x := .inl w) rfl (bd (x := w) rfl (iff' hl ?_))))
 refine bd (x := .inr (.inl w)) rfl (bd (x := .inl w) rfl (bd (x := w) rfl ?_))
 cases e : wPair.contains w with
 | false => exact iff' e rfl
 | true =>
   refine ift e (bd (x := .inl i) rfl (bd (x := i) rfl ?_))
   show (Option.bind (if in2 sp.length i = true then _ else some false) _) = some (in2 sp.length i && (in2 sp.length j && !(decide (i = j))))
   cases in2 sp.length i with
   | false => rfl
   | true =>
     refine bd (x := (in2 sp.length j && !(decide (i = j)))) (ift rfl (bd (x := .inl j) rfl (bd (x := j) rfl ?_))) rfl
     show (Option.bind (if in2 sp.length j = true then _ else some false) _) = _
     cases in2 sp.length j with
     | false => rfl
     | true => exact bd (x := !(decide (i = j))) (ift rfl (bd (x := .inl i) rfl (bd (x := i) rfl (bd (x := .inl j) rfl (bd (x := j) rfl rfl))))) rfl
theorem in2_t {n : Nat} {i : Int} (h0 : 0 ≤ i) (h1 : i < n) : in2 n i = true := by
 unfold in2; rw [decide_eq_true h0, decide_eq_true h1]; rfl
theorem in2_f {n : Nat} {i : Int} (h : ¬ (0 ≤ i ∧ i < (n : Int))) : in2 n i = false := by
 unfold in2
 by_cases h0 : 0 ≤ i
 · rw [decide_eq_true h0, decide_eq_false (fun h1 => h ⟨h0, h1⟩)]; rfl
 · rw [decide_eq_false h0]; rfl
theorem good_ok {n : Nat} {p : Pl} {sp : List (Int × Int)} (h : OkP n p) (hs : sp.length = n) : m_is_order sp (ordf p) = some true := by
 obtain ⟨w, i, j, num, hrs⟩ := p
 obtain ⟨hw, i0, i1, j0, j1, ne, hr⟩ := h
 dsimp only at hw i0 i1 j0 j1 ne
 rcases hw with rfl | rfl | rfl | rfl | rfl | rfl | rfl
 · rw [show ordf (wA, i, j, num, hrs) = [.inr (.inl wA), .inl i, .inl j, .inl num] from rfl, is4 hs rfl, in2_t i0 i1, in2_t j0 j1, decide_eq_false (ne (.inl rfl))]; rfl
 · rw [show ordf (wW, i, j, num, hrs) = [.inr (.inl wW), .inl i, .inl j, .inl num] from rfl, is4 hs rfl, in2_t i0 i1, in2_t j0 j1, decide_eq_false (ne (.inr (.inl rfl)))]; rfl
 · rw [show ordf (wL, i, j, num, hrs) = [.inr (.inl wL), .inl i, .inl j, .inl num] from rfl, is4 hs rfl, in2_t i0 i1, in2_t j0 j1, decide_eq_false (ne (.inr (.inr rfl)))]; rfl
 · rw [show ordf (wY, i, j, num, hrs) = [.inr (.inl wY), .inl i, .inl num] from rfl, is3 hs rfl, in2_t i0 i1]; rfl
 · rw [show ordf (wF, i, j, num, hrs) = [.inr (.inl wF), .inl i, .inl num] from rfl, is3 hs rfl, in2_t i0 i1]; rfl
 · rw [show ordf (wG, i, j, num, hrs) = [.inr (.inl wG), .inl i, .inr (.inr (sortI hrs))] from rfl, is3 hs rfl, in2_t i0 i1]; rfl
 · rw [show ordf (wB, i, j, num, hrs) = [.inr (.inl wB), .inl i, .inr (.inr (sortI hrs))] from rfl, is3 hs rfl, in2_t i0 i1]; rfl
inductive Sh : List UU → Prop
 | s3 (w : List Nat) (i : Int) (x : UU) (h : wPair.contains w = false) : Sh [.inr (.inl w), .inl i, x]
 | s4 (w : List Nat) (i j num : Int) (h : wLone.contains w = false) : Sh [.inr (.inl w), .inl i, .inl j, .inl num]
theorem sh_ord {n : Nat} {p : Pl} (h : OkP n p) : Sh (ordf p) := by
 obtain ⟨w, i, j, num, hrs⟩ := p
 have hw := h.w
 dsimp only at hw
 rcases hw with rfl | rfl | rfl | rfl | rfl | rfl | rfl
 · exact .s4 wA i j num rfl
 · exact .s4 wW i j num rfl
 · exact .s4 wL i j num rfl
 · exact .s3 wY i _ rfl
 · exact .s3 wF i _ rfl
 · exact .s3 wG i _ rfl
 · exact .s3 wB i _ rfl
def Bd (n : Nat) (o : List UU) : Prop := ∀ sp : List (Int × Int), sp.length = n → m_is_order sp o = some false
theorem bd_w3 {n : Nat} {w : List Nat} {i : Int} {x : UU} (h1 : wPair.contains w = false) (h2 : wLone.contains w = false) : Bd n [.inr (.inl w), .inl i, x] := fun sp hs => by rw [is3 hs h1, h2]; rfl
theorem bd_w4 {n : Nat} {w : List Nat} {i j num : Int} (h1 : wPair.contains w = false) (h2 : wLone.contains w = false) : Bd n [.inr (.inl w), .inl i, .inl j, .inl num] := fun sp hs => by rw [is4 hs h2, h1]; rfl
theorem bd_i3 {n : Nat} {w : List Nat} {i : Int} {x : UU} (h1 : wPair.contains w = false) (h : ¬ (0 ≤ i ∧ i < (n : Int))) : Bd n [.inr (.inl w), .inl i, x] := fun sp hs => by
 rw [is3 hs h1, in2_f h]; cases wLone.contains w <;> rfl
theorem bd_i4 {n : Nat} {w : List Nat} {i j num : Int} (h1 : wLone.contains w = false) (h : ¬ (0 ≤ i ∧ i < (n : Int))) : Bd n [.inr (.inl w), .inl i, .inl j, .inl num] := fun sp hs => by
 rw [is4 hs h1, in2_f h]; cases wPair.contains w <;> rfl
theorem bd_j4 {n : Nat} {w : List Nat} {i j num : Int} (h1 : wLone.contains w = false) (h : ¬ (0 ≤ j ∧ j < (n : Int)) ∨ i = j) : Bd n [.inr (.inl w), .inl i, .inl j, .inl num] := fun sp hs => by
 rw [is4 hs h1]
 have e : (in2 n j && !(decide (i = j))) = false := by
   rcases h with h | h
   · rw [in2_f h]; rfl
   · rw [decide_eq_true h]; cases in2 n j <;> rfl
 rw [e]
 cases wPair.contains w <;> cases in2 n i <;> rfl
theorem at4 {α : Type} {x : Int} (h0 : 0 ≤ x) (h1 : x < 4) (a b c d : α) : ∃ y, at_ [a, b, c, d] x = some y ∧ (y = a ∨ y = b ∨ y = c ∨ y = d) := by
 obtain ⟨y, e, hy⟩ := at_mem (xs := [a, b, c, d]) h0 h1
 exact ⟨y, e, by simpa using hy⟩
theorem spoilt_ok {h : List Int} (hh : Hd h) {n : Nat} (hn : n ≤ 12) {o : List UU} (s : Sh o) : ∃ o' h', m_l_spoilt h o (n : Int) = some (o', h') ∧ Sh o' ∧ Bd n o' ∧ Hd h' := by
 unfold m_l_spoilt
 obtain ⟨k, h1, e1, k0, k1, hh1⟩ := pick_ok hh (n := 4) (by decide) (by decide)
 obtain ⟨r, h2, e2, r0, r1, hh2⟩ := pick_ok hh1 (n := 4) (by decide) (by decide)
 refine bdP e1 ?_
 by_cases c0 : k = 0
 · refine iftP (decide_eq_true c0) (bdP e2 ?_)
   obtain ⟨v, e3, hv⟩ := at4 r0 r1 ([110, 101, 97, 114] : List Nat) ([65, 102, 116, 101, 114] : List Nat) ([] : List Nat) ([98, 97, 114, 115] : List Nat)
   refine bdP e3 ?_
   have hv2 : wPair.contains v = false ∧ wLone.contains v = false := by
     rcases hv with rfl | rfl | rfl | rfl <;> exact ⟨rfl, rfl⟩
   cases s with
   | s3 w i x _ => exact bdP (x := [.inr (.inl v), .inl i, x]) rfl ⟨_, _, rfl, .s3 v i x hv2.1, bd_w3 hv2.1 hv2.2, hh2⟩
   | s4 w i j num _ => exact bdP (x := [.inr (.inl v), .inl i, .inl j, .inl num]) rfl ⟨_, _, rfl, .s4 v i j num hv2.2, bd_w4 hv2.1 hv2.2, hh2⟩
 refine iffP (decide_eq_false c0) ?_
 obtain ⟨v, e3, hv⟩ := at4 r0 r1 (-(1 : Int)) (n : Int) ((n : Int) + 1) (99 : Int)
 have hv2 : ¬ (0 ≤ v ∧ v < (n : Int)) := by omega
 cases s with
 | s3 w i x hw =>
   refine iffP (by cases decide ((1 : Int) < k) <;> rfl) ?_
   refine bdP (x := .inr (.inl w)) rfl (bdP (x := .inl w) rfl (bdP (x := w) rfl (bdP e2 (bdP e3 ?_))))
   exact bdP (x := [.inr (.inl w), .inl v, x]) rfl ⟨_, _, rfl, .s3 w v x hw, bd_i3 hw hv2, hh2⟩
 | s4 w i j num hw =>
   by_cases c1 : 1 < k
   · refine iftP (by rw [decide_eq_true c1]; rfl) ?_
     refine bdP (x := .inr (.inl w)) rfl (bdP (x := .inl w) rfl (bdP (x := w) rfl (bdP (x := .inl i) rfl (bdP (x := i) rfl (bdP (x := .inl i) rfl (bdP (x := i) rfl (bdP (x := .inl i) rfl (bdP (x := i) rfl (bdP e2 ?_)))))))))
     obtain ⟨u, e4, hu⟩ := at4 r0 r1 i i (n : Int) (-(1 : Int))
     refine bdP e4 (bdP (x := .inl num) rfl (bdP (x := num) rfl ⟨_, _, rfl, .s4 w i u num hw, bd_j4 hw (by omega), hh2⟩))
   · refine iffP (by rw [decide_eq_false c1]; rfl) ?_
     refine bdP (x := .inr (.inl w)) rfl (bdP (x := .inl w) rfl (bdP (x := w) rfl (bdP e2 (bdP e3 ?_))))
     exact bdP (x := [.inr (.inl w), .inl v, .inl j, .inl num]) rfl ⟨_, _, rfl, .s4 w v j num hw, bd_i4 hw hv2, hh2⟩
theorem places_ok {h : List Int} (hh : Hd h) {m : Nat} (hm : m ≤ 1000) : ∃ l h', m_l_places h (m : Int) = some (l, h') ∧ (∀ x ∈ l, 0 ≤ x ∧ x < (m : Int)) ∧ l.length ≤ 10 ∧ Hd h' := by
 unfold m_l_places
 obtain ⟨a, h1, e1, a0, a1, hh1⟩ := pick_ok hh (n := 4) (by decide) (by decide)
 obtain ⟨k, e2, hk⟩ := at4 a0 a1 (0 : Int) 0 1 2
 refine bdP e1 (bdP e2 (ltP' ?_))
 by_cases c : (m : Int) = 0
 · exact iftP (decide_eq_true c) ⟨_, _, rfl, (fun x hx => nomatch hx), by decide, hh1⟩
 refine iffP (decide_eq_false c) ?_
 obtain ⟨⟨l, h2⟩, e3, q1, q2, q3⟩ := forN_ind (f := m_l_places_b1 (m : Int)) (xs := rng 0 k) (s0 := ([], h1)) (fun pre st => st.1.length = pre.length ∧ Hd st.2 ∧ ∀ x ∈ st.1, 0 ≤ x ∧ x < (m : Int)) ⟨rfl, hh1, fun x hx => nomatch hx⟩ (fun pre x suf st hx hst => by
   obtain ⟨s1, s2⟩ := st
   obtain ⟨hq, hs2, hp⟩ := hst
   have hlen : pre.length ≤ 100 := by
     have := congrArg List.length hx
     rw [rng_length, List.length_append] at this
     omega
   have hl : s1.length = pre.length := hq
   obtain ⟨u, k1, f1, u0, u1, hk1⟩ := pick_ok hs2 (n := (m : Int)) (by omega) (by omega)
   refine ⟨(s1 ++ [u], k1), bd f1 (bd (app_ok (xs := s1) (lt_big (by omega))) rfl), ?_, hk1, fun y hy => ?_⟩
   · show (s1 ++ [u]).length = _
     rw [List.length_append, List.length_append, hl]; rfl
   · rcases List.mem_append.mp (show y ∈ s1 ++ [u] from hy) with z | z
     · exact hp y z
     · rw [List.mem_singleton.mp z]; exact ⟨u0, u1⟩)
 refine bdP (rngO_ok (by decide) (by decide) (by omega) (by omega)) (bdP e3 ⟨_, _, rfl, q3, ?_, q2⟩)
 have : l.length = (rng 0 k).length := q1
 show l.length ≤ 10
 rw [this, rng_length]; omega
theorem spoil_ok {h : List Int} (hh : Hd h) {n : Nat} (hn : n ≤ 12) {os : List (List UU)} (hs : ∀ o ∈ os, Sh o) {pl : List Int} (hp : ∀ x ∈ pl, 0 ≤ x ∧ x < (os.length : Int)) :
   ∃ os' h', m_l_spoil h os pl (n : Int) = some (os', h') ∧ os'.length = os.length ∧ ∀ k : Nat, ((k : Int) ∈ pl → ∀ o, os'[k]? = some o → Bd n o) ∧ ((k : Int) ∉ pl → os'[k]? = os[k]?) := by
 unfold m_l_spoil
 obtain ⟨⟨h2, l⟩, e3, q1, q2, q3, q4⟩ := forN_ind (f := m_l_spoil_b1 (n : Int)) (xs := pl) (s0 := (h, os)) (fun pre st => Hd st.1 ∧ st.2.length = os.length ∧ (∀ o ∈ st.2, Sh o) ∧ ∀ k : Nat, ((k : Int) ∈ pre → ∀ o, st.2[k]? = some o → Bd n o) ∧ ((k : Int) ∉ pre → st.2[k]? = os[k]?)) ⟨hh, rfl, hs, fun k => ⟨(fun z => nomatch z), fun _ => rfl⟩⟩ (fun pre x suf st hx hst => by
   obtain ⟨s1, s2⟩ := st
   obtain ⟨hs1, hl, hsh, hk⟩ := hst
   have hl : s2.length = os.length := hl
   obtain ⟨x0, x1⟩ := hp x (mem_mid hx)
   obtain ⟨o, f1, f2⟩ := at_some (xs := s2) x0 (by rw [hl]; exact x1)
   obtain ⟨o', k1, f3, hs3, hb3, hk1⟩ := spoilt_ok hs1 hn (hsh o (List.mem_of_getElem? f2))
   refine ⟨(k1, s2.set x.toNat o'), bd f1 (bd f3 (bd (setAt_ok x0 (by rw [hl]; exact x1)) rfl)), hk1, by rw [List.length_set]; exact hl, fun z hz => ?_, fun k => ⟨fun hm z hz => ?_, fun hm => ?_⟩⟩
   · rcases List.mem_or_eq_of_mem_set hz with hz | rfl
     · exact hsh z hz
     · exact hs3
   · have hz : (s2.set x.toNat o')[k]? = some z := hz
     by_cases q : x.toNat = k
     · subst q
       rw [List.getElem?_set_self (by omega)] at hz
       rw [← Option.some.inj hz]; exact hb3
     · rw [List.getElem?_set_ne q] at hz
       rcases List.mem_append.mp hm with hm | hm
       · exact (hk k).1 hm z hz
       · have := List.mem_singleton.mp hm
         exact absurd (by omega) q
   · show (s2.set x.toNat o')[k]? = _
     have q : x.toNat ≠ k := fun q => hm (List.mem_append_right _ (List.mem_singleton.mpr (by omega)))
     rw [List.getElem?_set_ne q]
     exact (hk k).2 fun z => hm (List.mem_append_left _ z))
 exact ⟨l, h2, bd e3 rfl, q2, q4⟩
theorem lMin_is {xs : List Int} {m : Int} (h : lMin xs = some m) : m ∈ xs ∧ ∀ y ∈ xs, m ≤ y := by
 have key : ∀ (ys : List Int) (a : Int), (ys.foldl min a = a ∨ ys.foldl min a ∈ ys) ∧ ys.foldl min a ≤ a ∧ ∀ y ∈ ys, ys.foldl min a ≤ y := by
   intro ys
   induction ys with
   | nil => intro a; exact ⟨.inl rfl, Int.le_refl _, fun y h => nomatch h⟩
   | cons z zs ih =>
     intro a
     obtain ⟨h1, h2, h3⟩ := ih (min a z)
     show (zs.foldl min (min a z) = a ∨ _) ∧ zs.foldl min (min a z) ≤ a ∧ _
     refine ⟨?_, by omega, fun y hy => ?_⟩
     · rcases h1 with h1 | h1
       · by_cases q : a ≤ z
         · exact .inl (by rw [h1]; omega)
         · refine .inr (List.mem_cons.mpr (.inl ?_)); show zs.foldl min (min a z) = z; rw [h1]; omega
       · exact .inr (List.mem_cons_of_mem _ h1)
     · show zs.foldl min (min a z) ≤ y
       rcases List.mem_cons.mp hy with rfl | hy
       · omega
       · exact h3 y hy
 cases xs with
 | nil => cases h
 | cons x xs =>
   obtain rfl : (x :: xs).foldl min x = m := Option.some.inj h
   obtain ⟨h1, h2, h3⟩ := key (x :: xs) x
   refine ⟨?_, h3⟩
   rcases h1 with h1 | h1
   · rw [h1]; exact List.mem_cons_self ..
   · exact h1
def aw (hs : List Int) (x a b : Int) : Bool := (rng a (b + 1)).all fun d => hs.contains (x + d)
def al (sp : List (Int × Int)) (sch : List Int) (p : Pl) : Bool :=
 if decide (p.1 = wA) = true then decide (gt sch p.2.1 + hi sp p.2.1 + p.2.2.2.1 ≤ gt sch p.2.2.1) else if decide (p.1 = wW) = true then decide (gt sch p.2.2.1 ≤ gt sch p.2.1 + p.2.2.2.1) else
 if decide (p.1 = wL) = true then decide (gt sch p.2.2.1 + hi sp p.2.2.1 ≤ gt sch p.2.1 + lo sp p.2.1 + p.2.2.2.1) else if decide (p.1 = wY) = true then decide (gt sch p.2.1 + hi sp p.2.1 ≤ p.2.2.2.1) else
 if decide (p.1 = wF) = true then decide (p.2.2.2.1 ≤ gt sch p.2.1) else if decide (p.1 = wG) = true then p.2.2.2.2.contains (gt sch p.2.1) else aw p.2.2.2.2 (gt sch p.2.1) (lo sp p.2.1) (hi sp p.2.1)
theorem within_ok {hs : List Int} {x a b : Int} (ha : -1000 ≤ a) (ha2 : a ≤ 1000) (hb : -1000 ≤ b) (hb2 : b ≤ 1000) : m_l_all_within hs x a b = some (aw hs x a b) := by
 unfold m_l_all_within
 refine bd (rngO_ok (by omega) (by omega) (by omega) (by omega)) ?_
 rcases first_split (fun d => hs.contains (x + d)) (rng a (b + 1)) with h | ⟨pre, d, suf, e, h1, h2⟩
 · rw [show aw hs x a b = true from all_true h]
   exact bd (forR_all fun d hd => by unfold m_l_all_within_b1; exact iff' (by rw [h d hd]; rfl) rfl) rfl
 · have e2 : aw hs x a b = false := by unfold aw; rw [e]; exact all_split (g := fun d => hs.contains (x + d)) h2
   rw [e2, e]
   exact bd (forR_first (by unfold m_l_all_within_b1; exact ift (by rw [h2]; rfl) rfl) fun y hy => by unfold m_l_all_within_b1; exact iff' (by rw [h1 y hy]; rfl) rfl) rfl
def Lg (n : Nat) (sp : List (Int × Int)) (legs : List Int) : Prop := legs.length = n ∧ ∀ i : Int, 0 ≤ i → i < n → lo sp i ≤ gt legs i ∧ gt legs i ≤ hi sp i
theorem gt_set {xs : List Int} {i j x : Int} (hi0 : 0 ≤ i) (hi1 : i < xs.length) (hj : 0 ≤ j) : gt (xs.set i.toNat x) j = if i = j then x else gt xs j := by
 unfold gt
 by_cases e : i = j
 · subst e
   rw [if_pos rfl, List.getElem?_set_self (by omega)]; rfl
 · rw [if_neg e, List.getElem?_set_ne (by omega)]
theorem gt_low {n : Nat} {sp : List (Int × Int)} (hs : OkS n sp) {i : Int} (i0 : 0 ≤ i) (i1 : i < n) : gt (sp.map (·.1)) i = lo sp i := by
 unfold gt lo
 rw [List.getElem?_map]
 cases sp[i.toNat]? <;> rfl
theorem lows_ok {n : Nat} {sp : List (Int × Int)} (hs : OkS n sp) : Lg n sp (sp.map (·.1)) :=
 ⟨by rw [List.length_map, hs.1], fun i i0 i1 => by rw [gt_low hs i0 i1]; exact ⟨Int.le_refl _, (sp_le hs i).2.1⟩⟩
theorem kp_al {n : Nat} {p : Pl} {sp : List (Int × Int)} {sch legs : List Int} (h : OkP n p) (hl : Lg n sp legs) (ha : al sp sch p = true) : kp sch legs p = true := by
 obtain ⟨w, i, j, num, hrs⟩ := p
 obtain ⟨hw, i0, i1, j0, j1, _, hr⟩ := h
 dsimp only at hw i0 i1 j0 j1
 have li := hl.2 i i0 i1
 have lj := hl.2 j j0 j1
 rcases hw with rfl | rfl | rfl | rfl | rfl | rfl | rfl
 · have z : decide (gt sch i + hi sp i + num ≤ gt sch j) = true := ha
   have z := of_decide_eq_true z
   exact decide_eq_true (show gt sch i + gt legs i + num ≤ gt sch j by omega)
 · exact ha
 · have z : decide (gt sch j + hi sp j ≤ gt sch i + lo sp i + num) = true := ha
   have z := of_decide_eq_true z
   exact decide_eq_true (show gt sch j + gt legs j ≤ gt sch i + gt legs i + num by omega)
 · have z : decide (gt sch i + hi sp i ≤ num) = true := ha
   have z := of_decide_eq_true z
   exact decide_eq_true (show gt sch i + gt legs i ≤ num by omega)
 · exact ha
 · exact ha
 · have z : aw hrs (gt sch i) (lo sp i) (hi sp i) = true := ha
   exact List.all_eq_true.mp z (gt legs i) (mem_rng.mpr ⟨li.1, by omega⟩)
theorem check_ok {n : Nat} {ps : List Pl} {sp : List (Int × Int)} (hp : ∀ p ∈ ps, OkP n p) (hs : sp.length = n) : m_check_orders sp (ps.map ordf) = some () := by
 unfold m_check_orders
 rw [enumF_map]
 have gen : ∀ (L : List (Int × Pl)), (∀ q ∈ L, OkP n q.2) → forN (m_check_orders_b1 sp) () (L.map fun p => (p.1, ordf p.2)) = some () := by
   intro L
   induction L with
   | nil => intro _; rfl
   | cons q L ih =>
     intro hL
     rw [List.map_cons, forN_cons]
     exact bd (x := ()) (by unfold m_check_orders_b1; exact bd (good_ok (hL q (List.mem_cons_self ..)) hs) rfl) (ih fun z hz => hL z (List.mem_cons_of_mem _ hz))
 exact bd (gen (enumF 0 ps) fun q hq => hp _ (enumF_mem 0 ps hq)) rfl
theorem lgs_ok {h : List Int} (hh : Hd h) {n : Nat} {sp : List (Int × Int)} (hs : OkS n sp) (hn : n ≤ 12) : ∃ l h', m_l_legs h sp = some (l, h') ∧ Lg n sp l := by
 unfold m_l_legs
 obtain ⟨⟨l, h2⟩, e3, q1, q2, q3⟩ := forN_ind (f := m_l_legs_b1) (xs := sp) (s0 := ([], h)) (fun pre st => Hd st.2 ∧ st.1.length = pre.length ∧ ∀ (k : Nat) q x, pre[k]? = some q → st.1[k]? = some x → q.1 ≤ x ∧ x ≤ q.2) ⟨hh, rfl, fun k q x hq _ => by simp at hq⟩ (fun pre x suf st hx hst => by
   obtain ⟨s1, s2⟩ := st
   obtain ⟨hs2, hl, hq⟩ := hst
   have hl : s1.length = pre.length := hl
   have hlen : pre.length ≤ 100 := by
     have := congrArg List.length hx
     rw [hs.1, List.length_append] at this
     omega
   obtain ⟨x0, x1, x2⟩ := hs.2 x (mem_mid hx)
   obtain ⟨u, k1, f1, u0, u1, hk1⟩ := pick_ok hs2 (n := x.2 - x.1 + 1) (by omega) (by omega)
   refine ⟨(s1 ++ [x.1 + u], k1), bd f1 (bd (app_ok (xs := s1) (lt_big (by omega))) rfl), hk1, ?_, fun k q z h1 h2 => ?_⟩
   · show (s1 ++ [_]).length = _
     rw [List.length_append, List.length_append, hl]; rfl
   · have h2 : (s1 ++ [x.1 + u])[k]? = some z := h2
     by_cases c : k < pre.length
     · rw [List.getElem?_append_left c] at h1
       rw [List.getElem?_append_left (by omega)] at h2
       exact hq k q z h1 h2
     · rw [List.getElem?_append_right (by omega)] at h1 h2
       rw [hl] at h2
       have k0 : k - pre.length = 0 := by
         have := (List.getElem?_eq_some_iff.mp h1).1
         rw [List.length_singleton] at this; omega
       rw [k0] at h1 h2
       have a1 : x = q := by simpa using h1
       have a2 : x.1 + u = z := by simpa using h2
       subst a1
       omega)
 have ql : l.length = sp.length := q2
 refine ⟨l, h2, bd e3 rfl, by rw [ql, hs.1], fun i i0 i1 => ?_⟩
 have hlt : i.toNat < sp.length := by rw [hs.1]; omega
 have hlt2 : i.toNat < l.length := by rw [ql]; exact hlt
 have := q3 i.toNat sp[i.toNat] l[i.toNat] (List.getElem?_eq_getElem hlt) (List.getElem?_eq_getElem hlt2)
 unfold lo hi gt
 rw [List.getElem?_eq_getElem hlt, List.getElem?_eq_getElem hlt2]
 exact this
theorem orders_ok (ps : List Pl) (hn : ps.length ≤ 1000) : forN m_law_b1 [] ps = some (ps.map ordf) := by
 rw [forN_flat (f := m_law_b1) (h := fun p => [ordf p]) (fun _ => Nat.le_refl _) (le_big (by show 0 + ps.length ≤ 100000; omega)) (fun acc p hp hb => bd (order_ok p) (bd (app_ok hb) rfl)), List.nil_append, flat_sing]
theorem check_x {sp : List (Int × Int)} {os : List (List UU)} {k : Nat} (hk : k < os.length) (hl : os.length ≤ 1000) (h1 : ∀ j : Nat, j < k → ∀ o, os[j]? = some o → m_is_order sp o = some true) (h2 : ∀ o, os[k]? = some o → m_is_order sp o = some false) : m_check_orders_x sp os = some (.inl (k : Int)) := by
 unfold m_check_orders_x
 have es : os = os.take k ++ os[k] :: os.drop (k + 1) := by
   rw [← List.drop_eq_getElem_cons hk, List.take_append_drop]
 have ef : forR (m_check_orders_x_b1 sp) () (enumF 0 os) = some (.inl (.inl (k : Int))) := by
   rw [es, enumF_app]
   have el : (0 : Int) + ((os.take k).length : Int) = (k : Int) := by rw [List.length_take]; omega
   rw [el]
   refine forR_first (x := ((k : Int), os[k])) (suf := enumF ((k : Int) + 1) (os.drop (k + 1))) ?_ fun q hq => ?_
   · unfold m_check_orders_x_b1
     refine bd (h2 _ (List.getElem?_eq_getElem hk)) (ift rfl ?_)
     exact bd (x := sInt (k : Int)) (if_pos (by omega)) rfl
   · unfold m_check_orders_x_b1
     obtain ⟨j, f1, f2⟩ := enumF_get 0 _ hq
     have hj : j < k := by
       have := (List.getElem?_eq_some_iff.mp f2).1
       rw [List.length_take] at this; omega
     rw [List.getElem?_take_of_lt hj] at f2
     exact bd (h1 j hj _ f2) (iff' rfl rfl)
 exact bd ef rfl
theorem aw_iff {hs : List Int} {x a b : Int} : aw hs x a b = true ↔ ∀ d, a ≤ d → d ≤ b → x + d ∈ hs := by
 unfold aw
 rw [List.all_eq_true]
 constructor
 · intro h d h1 h2
   exact List.contains_iff_mem.mp (h d (mem_rng.mpr ⟨h1, by omega⟩))
 · intro h d hd
   obtain ⟨h1, h2⟩ := mem_rng.mp hd
   exact List.contains_iff_mem.mpr (h d h1 (by omega))
theorem aw_sort {hs : List Int} {x a b : Int} : aw (sortI hs) x a b = aw hs x a b := by
 rw [Bool.eq_iff_iff, aw_iff, aw_iff]
 have e : ∀ y, y ∈ sortI hs ↔ y ∈ hs := fun y => (List.mergeSort_perm hs _).mem_iff
 constructor
 · intro h d h1 h2; exact (e _).mp (h d h1 h2)
 · intro h d h1 h2; exact (e _).mpr (h d h1 h2)
def Ls (W : Int → Bool) (h : Int) (r : Option Int) : Prop := (∃ x, r = some x ∧ h ≤ x ∧ x ≤ 200 ∧ W x = true ∧ ∀ y, h ≤ y → y < x → W y = false) ∨ (r = none ∧ ∀ y, h ≤ y → y ≤ 200 → W y = false)
theorem Ls_uniq {W : Int → Bool} {h : Int} {r r' : Option Int} (a : Ls W h r) (b : Ls W h r') : r = r' := by
 rcases a with ⟨x, rfl, h1, h2, h3, h4⟩ | ⟨rfl, h1⟩ <;> rcases b with ⟨y, rfl, g1, g2, g3, g4⟩ | ⟨rfl, g1⟩
 · have : x = y := by
     rcases Int.lt_trichotomy x y with q | q | q
     · rw [g4 x h1 q] at h3; cases h3
     · exact q
     · rw [h4 y g1 q] at g3; cases g3
   rw [this]
 · rw [g1 x h1 h2] at h3; cases h3
 · rw [h1 y g1 g2] at g3; cases g3
 · rfl
def lw (hs : List Int) (a b h : Int) : Option Int := (rng h 201).find? fun x => aw hs x a b
theorem find_first {α : Type} {g : α → Bool} {x : α} {suf : List α} (hx : g x = true) : ∀ {pre : List α}, (∀ y ∈ pre, g y = false) → (pre ++ x :: suf).find? g = some x
 | [], _ => by show (x :: suf).find? g = some x; rw [List.find?_cons, hx]
 | y :: pre, h => by
   show (y :: (pre ++ x :: suf)).find? g = some x
   rw [List.find?_cons, h y (List.mem_cons_self ..)]
   exact find_first hx fun z hz => h z (List.mem_cons_of_mem _ hz)
theorem find_no {α : Type} {g : α → Bool} : ∀ {xs : List α}, (∀ y ∈ xs, g y = false) → xs.find? g = none
 | [], _ => rfl
 | y :: xs, h => by rw [List.find?_cons, h y (List.mem_cons_self ..)]; exact find_no fun z hz => h z (List.mem_cons_of_mem _ hz)
theorem not_tt {b : Bool} (h : (!b) = true) : b = false := by cases b <;> first | rfl | cases h
theorem not_ff {b : Bool} (h : (!b) = false) : b = true := by cases b <;> first | rfl | cases h
theorem lw_ls (hs : List Int) (a b h : Int) : Ls (fun x => aw hs x a b) h (lw hs a b h) := by
 unfold lw
 rcases first_split (fun x => !aw hs x a b) (rng h 201) with q | ⟨pre, x, suf, e, h1, h2⟩
 · exact .inr ⟨find_no fun y hy => not_tt (q y hy), fun y y1 y2 => not_tt (q y (mem_rng.mpr ⟨y1, by omega⟩))⟩
 · obtain ⟨e1, e2, e3, e4⟩ := rng_mid e
   refine .inl ⟨x, ?_, by omega, by omega, not_ff h2, fun y y1 y2 => not_tt (h1 y ?_)⟩
   · rw [e]; exact find_first (g := fun x => aw hs x a b) (not_ff h2) fun y hy => not_tt (h1 y hy)
   · rw [e2]; exact mem_rng.mpr ⟨y1, y2⟩
theorem ffrom_ok {g : List Int} {W : Int → Bool} {h : Int} (hs : g.Pairwise (· ≤ ·)) (hm : ∀ x, h ≤ x → (x ∈ g ↔ x ≤ 200 ∧ W x = true)) : ∃ r, m_Gate_first_from g h = some r ∧ Ls W h r := by
 unfold m_Gate_first_from
 rcases first_split (fun x => !(decide (h ≤ x))) g with q | ⟨pre, x, suf, e, h1, h2⟩
 · have q' : ∀ x ∈ g, ¬ h ≤ x := fun x hx => of_decide_eq_false (not_tt (q x hx))
   refine ⟨none, bd (forR_all fun x hx => ?_) rfl, .inr ⟨rfl, fun y y1 y2 => ?_⟩⟩
   · unfold m_Gate_first_from_b1
     exact iff' (decide_eq_false (q' x hx)) rfl
   · cases c : W y with
     | false => rfl
     | true => exact absurd y1 (q' y ((hm y y1).mpr ⟨y2, c⟩))
 · have hx : h ≤ x := of_decide_eq_true (not_ff h2)
   have hxg : x ∈ g := by rw [e]; exact List.mem_append_right _ (List.mem_cons_self ..)
   obtain ⟨x1, x2⟩ := (hm x hx).mp hxg
   refine ⟨some x, ?_, .inl ⟨x, rfl, hx, x1, x2, fun y y1 y2 => ?_⟩⟩
   · rw [e]
     exact bd (forR_first (by unfold m_Gate_first_from_b1; exact ift (decide_eq_true hx) rfl) fun y hy => by
       unfold m_Gate_first_from_b1
       exact iff' (not_tt (h1 y hy)) rfl) rfl
   · cases c : W y with
     | false => rfl
     | true =>
       have hy := (hm y y1).mpr ⟨by omega, c⟩
       rw [e] at hy hs
       rcases List.mem_append.mp hy with z | z
       · exact absurd y1 (of_decide_eq_false (not_tt (h1 y z)))
       · rcases List.mem_cons.mp z with z | z
         · omega
         · have := (List.pairwise_cons.mp (List.pairwise_append.mp hs).2.1).1 y z
           omega
theorem opening_ok {g : List Int} {h last : Int} {r : Option Int} (e : m_Gate_first_from g h = some r) : m_opening g h last = some (r.getD (last + 1)) := by
 unfold m_opening
 refine bd e ?_
 cases r with
 | none => rfl
 | some x => rfl
theorem sort_pw (xs : List Int) : (sortI xs).Pairwise (· ≤ ·) := by
 have := List.pairwise_mergeSort (le := fun a b : Int => decide (a ≤ b)) (fun a b c h1 h2 => by
   have h1 := of_decide_eq_true h1
   have h2 := of_decide_eq_true h2
   exact decide_eq_true (by omega)) (fun a b => by
   by_cases h : a ≤ b
   · rw [decide_eq_true h]; rfl
   · rw [decide_eq_true (show b ≤ a by omega), Bool.or_true]) xs
 exact this.imp fun h => of_decide_eq_true h
theorem shrunk_ok {g : List Int} {a b : Int} (ha : 0 ≤ a) (hab : a ≤ b) (hb : b ≤ 1000) (hs : g.Pairwise (· ≤ ·)) (hr : ∀ x ∈ g, 0 ≤ x ∧ x ≤ 200) : ∃ s, m_Gate_shrunk g a b = some s ∧ s.Pairwise (· ≤ ·) ∧ ∀ x, x ∈ s ↔ 0 ≤ x ∧ aw g x a b = true := by
 obtain ⟨M, eM, M0, M1, hM⟩ : ∃ M, (if (!g.isEmpty) = true then (at_ g (-(1 : Int))).bind fun x20 => some (x20 + (1 : Int)) else  some (0 : Int)) = some M ∧ 0 ≤ M ∧ M ≤ 201 ∧ ∀ y ∈ g, y < M := by
   rcases List.eq_nil_or_concat g with rfl | ⟨L, z, e0⟩
   · exact ⟨0, rfl, by decide, by decide, fun y h => nomatch h⟩
   · rw [List.concat_eq_append] at e0
     subst e0
     have e1 : at_ (L ++ [z]) (-(1 : Int)) = some z := by
       unfold at_ ixN
       rw [if_neg (by decide), List.length_append, List.length_singleton, if_pos (by omega)]
       have e2 : (-(1 : Int) + ((L.length + 1 : Nat) : Int)).toNat = L.length := by omega
       rw [e2]
       show (L ++ [z])[L.length]? = some z
       rw [List.getElem?_append_right (Nat.le_refl _), Nat.sub_self]; rfl
     have hz := hr z (List.mem_append_right _ (List.mem_singleton.mpr rfl))
     refine ⟨z + 1, ift (by cases L <;> rfl) (bd e1 rfl), by omega, by omega, fun y hy => ?_⟩
     rcases List.mem_append.mp hy with q | q
     · have := (List.pairwise_append.mp hs).2.2 y q z (List.mem_singleton.mpr rfl)
       omega
     · rw [List.mem_singleton.mp q]; omega
 obtain ⟨⟨f, run⟩, e3, q1, q2, q3⟩ := forN_ind (f := m_Gate_shrunk_b1 g a b) (xs := rng 0 M) (s0 := ([], 0))
   (fun pre st => (st.1.Pairwise (· < ·) ∧ st.1.length ≤ pre.length) ∧ (∀ x, x ∈ st.1 ↔ 0 ≤ x ∧ x + b < (pre.length : Int) ∧ aw g x a b = true) ∧
     (0 ≤ st.2 ∧ st.2 ≤ (pre.length : Int) ∧ (∀ y, (pre.length : Int) - st.2 ≤ y → y < (pre.length : Int) → y ∈ g) ∧ (st.2 < (pre.length : Int) → (pre.length : Int) - st.2 - 1 ∉ g)))
   ⟨⟨.nil, Nat.le_refl _⟩, (fun x => ⟨(fun h => nomatch h), fun h => by
     have h2 : x + b < ((([] : List Int).length : Nat) : Int) := h.2.1
     rw [List.length_nil] at h2
     have h1 := h.1
     omega⟩), Int.le_refl _, Int.le_refl _, (fun y h1 h2 => by
       have h1 : ((([] : List Int).length : Nat) : Int) - 0 ≤ y := h1
       rw [List.length_nil] at h1 h2; omega), fun h => absurd h (by decide)⟩
   (fun pre k suf st hk hst => by
     obtain ⟨s1, s2⟩ := st
     obtain ⟨⟨p1, p2⟩, p3, p4, p5, p6, p7⟩ := hst
     obtain ⟨k1, _, _, k4⟩ := rng_mid hk
     have hkl : (pre.length : Int) = k := by omega
     have hp2 : s1.length ≤ pre.length := p2
     dsimp only at p1 p3 p4 p5 p6 p7
     rw [hkl] at p3 p5 p6 p7
     have el : (((pre ++ [k]).length : Nat) : Int) = k + 1 := by rw [List.length_append, List.length_singleton]; omega
     obtain ⟨run', er, r0, r1, r2, r3⟩ : ∃ run', (if (g.contains k) = true then  some (s2 + (1 : Int)) else  some (0 : Int)) = some run' ∧ 0 ≤ run' ∧ run' ≤ k + 1 ∧ (∀ y, k + 1 - run' ≤ y → y < k + 1 → y ∈ g) ∧ (run' < k + 1 → k + 1 - run' - 1 ∉ g) := by
       by_cases c : g.contains k = true
       · refine ⟨s2 + 1, ift c rfl, by omega, by omega, fun y y1 y2 => ?_, fun h => ?_⟩
         · by_cases e : y = k
           · rw [e]; exact List.contains_iff_mem.mp c
           · exact p6 y (by omega) (by omega)
         · have := p7 (by omega)
           rw [show k + 1 - (s2 + 1) - 1 = k - s2 - 1 by omega]; exact this
       · refine ⟨0, iff' (bf c) rfl, by omega, by omega, fun y y1 y2 => by omega, fun h => ?_⟩
         rw [show k + 1 - 0 - 1 = k by omega]
         exact fun z => c (List.contains_iff_mem.mpr z)
     have key : (b - a < run' ∧ b ≤ k) ↔ (0 ≤ k - b ∧ aw g (k - b) a b = true) := by
       rw [aw_iff]
       constructor
       · rintro ⟨h1, h2⟩
         exact ⟨by omega, fun d d1 d2 => r2 _ (by omega) (by omega)⟩
       · rintro ⟨h1, h2⟩
         refine ⟨?_, by omega⟩
         rcases Int.lt_or_le (b - a) run' with q | q
         · exact q
         · exact absurd (by rw [show k + 1 - run' - 1 = k - b + (b - run') by omega]; exact h2 (b - run') (by omega) (by omega)) (r3 (by omega))
     by_cases c : b - a < run' ∧ b ≤ k
     · refine ⟨(s1 ++ [k - b], run'), bd er (ltE (bd (ift (by rw [decide_eq_true c.1, decide_eq_true c.2]; rfl) (bd (app_ok (xs := s1) (lt_big (by omega))) rfl)) rfl)), ⟨⟨?_, ?_⟩, fun x => ?_, ?_⟩⟩
       · refine List.pairwise_append.mpr ⟨p1, List.pairwise_singleton _ _, fun x hx y hy => ?_⟩
         rw [List.mem_singleton.mp hy]
         have := ((p3 x).mp hx).2.1
         omega
       · show (s1 ++ [k - b]).length ≤ (pre ++ [k]).length
         rw [List.length_append, List.length_append, List.length_singleton, List.length_singleton]; omega
       · show x ∈ s1 ++ [k - b] ↔ _
         rw [List.mem_append, List.mem_singleton, el, p3 x]
         constructor
         · rintro (⟨h1, h2, h3⟩ | rfl)
           · exact ⟨h1, by omega, h3⟩
           · exact ⟨(key.mp c).1, by omega, (key.mp c).2⟩
         · rintro ⟨h1, h2, h3⟩
           by_cases e : x = k - b
           · exact .inr e
           · exact .inl ⟨h1, by omega, h3⟩
       · rw [el]; exact ⟨r0, r1, r2, r3⟩
     · refine ⟨(s1, run'), bd er (ltE (bd (iff' ?_ rfl) rfl)), ⟨⟨p1, ?_⟩, fun x => ?_, ?_⟩⟩
       · by_cases c1 : b - a < run'
         · rw [decide_eq_true c1, decide_eq_false (fun c2 => c ⟨c1, c2⟩)]; rfl
         · rw [decide_eq_false c1]; rfl
       · show s1.length ≤ (pre ++ [k]).length
         rw [List.length_append]; omega
       · show x ∈ s1 ↔ _
         rw [el, p3 x]
         constructor
         · rintro ⟨h1, h2, h3⟩
           exact ⟨h1, by omega, h3⟩
         · rintro ⟨h1, h2, h3⟩
           refine ⟨h1, ?_, h3⟩
           rcases Int.lt_or_le (x + b) k with q | q
           · exact q
           · exact absurd (key.mpr (by rw [show k - b = x by omega]; exact ⟨h1, h3⟩)) c
       · rw [el]; exact ⟨r0, r1, r2, r3⟩)
 have lM : (((rng 0 M).length : Nat) : Int) = M := by rw [rng_length]; omega
 rw [lM] at q2
 have pw : f.Pairwise (· ≤ ·) := q1.1.imp fun h => Int.le_of_lt h
 refine ⟨sortI f, ?_, by rw [sortI_self pw]; exact pw, fun x => ?_⟩
 · unfold m_Gate_shrunk
   exact ltE (bd eM (bd (rngO_ok (by decide) (by decide) (by omega) (by omega)) (bd e3 (bd (x := sortI f) rfl rfl))))
 · rw [sortI_self pw, show x ∈ f ↔ _ from q2 x]
   constructor
   · rintro ⟨h1, _, h3⟩
     exact ⟨h1, h3⟩
   · rintro ⟨h1, h3⟩
     refine ⟨h1, ?_, h3⟩
     exact hM _ (aw_iff.mp h3 b hab (Int.le_refl _))
def ask (sp : List (Int × Int)) (p : Pl) (H : List Int) (last : Int) : Int × Int :=
 if decide (p.1 = wA) = true then (p.2.2.1, gt H p.2.1 + hi sp p.2.1 + p.2.2.2.1) else if decide (p.1 = wW) = true then (p.2.1, gt H p.2.2.1 - p.2.2.2.1) else
 if decide (p.1 = wL) = true then (p.2.1, gt H p.2.2.1 + hi sp p.2.2.1 - lo sp p.2.1 - p.2.2.2.1) else if decide (p.1 = wY) = true then (p.2.1, if decide (p.2.2.2.1 < gt H p.2.1 + hi sp p.2.1) = true then last + 1 else 0) else
 if decide (p.1 = wF) = true then (p.2.1, p.2.2.2.1) else if decide (p.1 = wG) = true then (p.2.1, (lw p.2.2.2.2 0 0 (gt H p.2.1)).getD (last + 1)) else (p.2.1, (lw p.2.2.2.2 (lo sp p.2.1) (hi sp p.2.1) (gt H p.2.1)).getD (last + 1))
def Hr (n : Nat) (H : List Int) : Prop := H.length = n ∧ ∀ i, 0 ≤ i → i < (n : Int) → 0 ≤ gt H i ∧ gt H i ≤ 1000
theorem scan_ok {p : Pl} {i a b h last : Int} (h0 : 0 ≤ h) (h1 : h ≤ 1000) (ha : -1000 ≤ a) (ha2 : a ≤ 1000) (hb : -1000 ≤ b) (hb2 : b ≤ 1000) : ((rngO h (201 : Int)).bind fun g192 => (forR (m_l_asks_b1 p i (a, b)) () g192).bind fun e193 => orR e193 fun s194 => some (i, (last + (1 : Int)))) = some (i, (lw p.2.2.2.2 a b h).getD (last + 1)) := by
 refine bd (rngO_ok (by omega) (by omega) (by omega) (by omega)) ?_
 have hw : ∀ x, m_l_all_within p.2.2.2.2 x a b = some (aw p.2.2.2.2 x a b) := fun x => within_ok ha ha2 hb hb2
 unfold lw
 rcases first_split (fun x => !aw p.2.2.2.2 x a b) (rng h 201) with q | ⟨pre, x, suf, e, h1, h2⟩
 · rw [find_no (g := fun x => aw p.2.2.2.2 x a b) fun y hy => not_tt (q y hy)]
   exact bd (forR_all fun x hx => by unfold m_l_asks_b1; exact bd (hw x) (iff' (not_tt (q x hx)) rfl)) rfl
 · rw [e, find_first (g := fun x => aw p.2.2.2.2 x a b) (not_ff h2) fun y hy => not_tt (h1 y hy)]
   exact bd (forR_first (by unfold m_l_asks_b1; exact bd (hw x) (ift (not_ff h2) rfl)) fun y hy => by unfold m_l_asks_b1; exact bd (hw y) (iff' (not_tt (h1 y hy)) rfl)) rfl
theorem asks_ok {n : Nat} {p : Pl} {sp : List (Int × Int)} {H : List Int} {last : Int} (h : OkP n p) (hs : OkS n sp) (hh : Hr n H) : m_l_asks p sp H last = some (ask sp p H last) := by
 obtain ⟨w, i, j, num, hrs⟩ := p
 obtain ⟨hw, i0, i1, j0, j1, ne, hr⟩ := h
 dsimp only at hw i0 i1 j0 j1
 have si := at_gt hh.1 i0 i1
 have sj := at_gt hh.1 j0 j1
 have pi := at_sp hs i0 i1
 have pj := at_sp hs j0 j1
 have li := sp_le hs i
 have ri := hh.2 i i0 i1
 unfold m_l_asks
 refine ltE (ltE ?_)
 rcases hw with rfl | rfl | rfl | rfl | rfl | rfl | rfl
 · exact ift rfl (bd si (bd pi rfl))
 · exact iff' rfl (ift rfl (bd sj rfl))
 · exact iff' rfl (iff' rfl (ift rfl (bd sj (bd pj (bd pi rfl)))))
 · refine iff' rfl (iff' rfl (iff' rfl (ift rfl (bd si (bd pi (bd (x := if decide (num < gt H i + hi sp i) = true then last + 1 else 0) ?_ rfl))))))
   show at_ [(0 : Int), last + 1] (Mi.bI (decide (num < gt H i + hi sp i))) = _
   cases decide (num < gt H i + hi sp i) <;> rfl
 · exact iff' rfl (iff' rfl (iff' rfl (iff' rfl (ift rfl rfl))))
 · exact iff' rfl (iff' rfl (iff' rfl (iff' rfl (iff' rfl (ltE (ltE (bd (x := (0, 0)) (iff' rfl rfl) (bd si (scan_ok (p := (wG, i, j, num, hrs)) ri.1 ri.2 (by decide) (by decide) (by decide) (by decide))))))))))
 · exact iff' rfl (iff' rfl (iff' rfl (iff' rfl (iff' rfl (ltE (ltE (bd (x := (lo sp i, hi sp i)) (ift rfl (bd pi (ltE (bd pi (ltE rfl))))) (bd si (scan_ok (p := (wB, i, j, num, hrs)) ri.1 ri.2 (by omega) (by omega) (by omega) (by omega))))))))))
def shk (sp : List (Int × Int)) (p : Pl) : List Int := (m_Gate_shrunk (sortI p.2.2.2.2) (lo sp p.2.1) (hi sp p.2.1)).getD []
def gf (sp : List (Int × Int)) (p : Pl) : List UU := if decide (p.1 = wB) = true then [.inr (.inl wG), .inl p.2.1, .inr (.inr (shk sp p))] else ordf p
theorem shr_ok {n : Nat} {p : Pl} {sp : List (Int × Int)} (h : OkP n p) (hs : OkS n sp) : m_Gate_shrunk (sortI p.2.2.2.2) (lo sp p.2.1) (hi sp p.2.1) = some (shk sp p) ∧ (shk sp p).Pairwise (· ≤ ·) ∧ ∀ x, x ∈ shk sp p ↔ 0 ≤ x ∧ aw p.2.2.2.2 x (lo sp p.2.1) (hi sp p.2.1) = true := by
 have li := sp_le hs p.2.1
 obtain ⟨s, e, e1, e2⟩ := shrunk_ok (g := sortI p.2.2.2.2) (a := lo sp p.2.1) (b := hi sp p.2.1) li.1 li.2.1 (by omega) (sort_pw _) (fun x hx => h.hr x ((List.mergeSort_perm _ _).mem_iff.mp hx))
 have es : shk sp p = s := by unfold shk; rw [e]; rfl
 rw [es]
 exact ⟨e, e1, fun x => by rw [e2 x, aw_sort]⟩
theorem gated_ok {n : Nat} {p : Pl} {sp : List (Int × Int)} (h : OkP n p) (hs : OkS n sp) : m_gated sp (ordf p) = some (gf sp p) := by
 have e := (shr_ok h hs).1
 obtain ⟨w, i, j, num, hrs⟩ := p
 obtain ⟨hw, i0, i1, j0, j1, ne, hr⟩ := h
 dsimp only at hw i0 i1 j0 j1
 have pi := at_sp hs i0 i1
 unfold m_gated
 rcases hw with rfl | rfl | rfl | rfl | rfl | rfl | rfl
 · exact bd (x := .inr (.inl wA)) rfl (bd (x := .inl wA) rfl (bd (x := wA) rfl (ift rfl rfl)))
 · exact bd (x := .inr (.inl wW)) rfl (bd (x := .inl wW) rfl (bd (x := wW) rfl (ift rfl rfl)))
 · exact bd (x := .inr (.inl wL)) rfl (bd (x := .inl wL) rfl (bd (x := wL) rfl (ift rfl rfl)))
 · exact bd (x := .inr (.inl wY)) rfl (bd (x := .inl wY) rfl (bd (x := wY) rfl (ift rfl rfl)))
 · exact bd (x := .inr (.inl wF)) rfl (bd (x := .inl wF) rfl (bd (x := wF) rfl (ift rfl rfl)))
 · exact bd (x := .inr (.inl wG)) rfl (bd (x := .inl wG) rfl (bd (x := wG) rfl (ift rfl rfl)))
 · refine bd (x := .inr (.inl wB)) rfl (bd (x := .inl wB) rfl (bd (x := wB) rfl (iff' rfl ?_)))
   refine bd (x := .inl i) rfl (bd (x := i) rfl (bd pi ?_))
   exact bd (x := .inl i) rfl (bd (x := i) rfl (bd (x := .inr (.inr (sortI hrs))) rfl (bd (x := .inr (sortI hrs)) rfl (bd (x := sortI hrs) rfl (bd e rfl)))))
theorem gate_ask {g : List Int} {W : Int → Bool} {h last : Int} {r : Option Int} (hs : g.Pairwise (· ≤ ·)) (hm : ∀ x, h ≤ x → (x ∈ g ↔ x ≤ 200 ∧ W x = true)) (hl : Ls W h r) : m_opening g h last = some (r.getD (last + 1)) := by
 obtain ⟨r', e, l⟩ := ffrom_ok hs hm
 rw [Ls_uniq hl l]
 exact opening_ok e
theorem asked_ok {n : Nat} {p : Pl} {sp : List (Int × Int)} {H : List Int} {last : Int} (h : OkP n p) (hs : OkS n sp) (hh : Hr n H) : m_asked sp (gf sp p) H last = some (ask sp p H last) := by
 have e := shr_ok h hs
 obtain ⟨w, i, j, num, hrs⟩ := p
 obtain ⟨hw, i0, i1, j0, j1, ne, hr⟩ := h
 dsimp only at hw i0 i1 j0 j1 hr e
 have si := at_gt hh.1 i0 i1
 have sj := at_gt hh.1 j0 j1
 have pi := at_sp hs i0 i1
 have pj := at_sp hs j0 j1
 have li := sp_le hs i
 have ri := hh.2 i i0 i1
 rcases hw with rfl | rfl | rfl | rfl | rfl | rfl | rfl
 · show m_asked sp [.inr (.inl wA), .inl i, .inl j, .inl num] H last = _
   unfold m_asked
   refine bd (x := .inl i) rfl (bd (x := i) rfl (ltE (bd pi (bd (x := .inr (.inl wA)) rfl (bd (x := .inl wA) rfl (bd (x := wA) rfl ?_))))))
   exact ift rfl (bd (x := .inl j) rfl (bd (x := j) rfl (bd si (bd (x := .inl num) rfl (bd (x := num) rfl rfl)))))
 · show m_asked sp [.inr (.inl wW), .inl i, .inl j, .inl num] H last = _
   unfold m_asked
   refine bd (x := .inl i) rfl (bd (x := i) rfl (ltE (bd pi (bd (x := .inr (.inl wW)) rfl (bd (x := .inl wW) rfl (bd (x := wW) rfl ?_))))))
   exact iff' rfl (ift rfl (bd (x := .inl j) rfl (bd (x := j) rfl (bd sj (bd (x := .inl num) rfl (bd (x := num) rfl rfl))))))
 · show m_asked sp [.inr (.inl wL), .inl i, .inl j, .inl num] H last = _
   unfold m_asked
   refine bd (x := .inl i) rfl (bd (x := i) rfl (ltE (bd pi (bd (x := .inr (.inl wL)) rfl (bd (x := .inl wL) rfl (bd (x := wL) rfl ?_))))))
   exact iff' rfl (iff' rfl (ift rfl (bd (x := .inl j) rfl (bd (x := j) rfl (bd sj (bd (x := .inl j) rfl (bd (x := j) rfl (bd pj (bd (x := .inl num) rfl (bd (x := num) rfl rfl))))))))))
 · show m_asked sp [.inr (.inl wY), .inl i, .inl num] H last = _
   unfold m_asked
   refine bd (x := .inl i) rfl (bd (x := i) rfl (ltE (bd pi (bd (x := .inr (.inl wY)) rfl (bd (x := .inl wY) rfl (bd (x := wY) rfl ?_))))))
   refine iff' rfl (iff' rfl (iff' rfl (ift rfl (bd si (bd (x := .inl num) rfl (bd (x := num) rfl (bd (x := if decide (num < gt H i + hi sp i) = true then last + 1 else 0) ?_ rfl)))))))
   show (if decide (num < gt H i + hi sp i) = true then some (last + 1) else some (0 : Int)) = _
   cases decide (num < gt H i + hi sp i) <;> rfl
 · show m_asked sp [.inr (.inl wF), .inl i, .inl num] H last = _
   unfold m_asked
   refine bd (x := .inl i) rfl (bd (x := i) rfl (ltE (bd pi (bd (x := .inr (.inl wF)) rfl (bd (x := .inl wF) rfl (bd (x := wF) rfl ?_))))))
   exact iff' rfl (iff' rfl (iff' rfl (iff' rfl (ift rfl (bd (x := .inl num) rfl (bd (x := num) rfl rfl))))))
 · show m_asked sp [.inr (.inl wG), .inl i, .inr (.inr (sortI hrs))] H last = _
   unfold m_asked
   refine bd (x := .inl i) rfl (bd (x := i) rfl (ltE (bd pi (bd (x := .inr (.inl wG)) rfl (bd (x := .inl wG) rfl (bd (x := wG) rfl ?_))))))
   refine iff' rfl (iff' rfl (iff' rfl (iff' rfl (iff' rfl (ift rfl (bd (x := .inr (.inr (sortI hrs))) rfl (bd (x := .inr (sortI hrs)) rfl (bd (x := sortI hrs) rfl (bd si (bd (gate_ask (sort_pw hrs) (fun x hx => ?_) (lw_ls hrs 0 0 (gt H i))) rfl))))))))))
   rw [show x ∈ sortI hrs ↔ x ∈ hrs from (List.mergeSort_perm _ _).mem_iff, aw_iff]
   constructor
   · intro z
     exact ⟨(hr x z).2, fun d d0 d1 => by rw [show x + d = x by omega]; exact z⟩
   · rintro ⟨_, z⟩
     have := z 0 (Int.le_refl _) (Int.le_refl _)
     rw [show x + 0 = x by omega] at this; exact this
 · show m_asked sp [.inr (.inl wG), .inl i, .inr (.inr (shk sp (wB, i, j, num, hrs)))] H last = _
   unfold m_asked
   refine bd (x := .inl i) rfl (bd (x := i) rfl (ltE (bd pi (bd (x := .inr (.inl wG)) rfl (bd (x := .inl wG) rfl (bd (x := wG) rfl ?_))))))
   refine iff' rfl (iff' rfl (iff' rfl (iff' rfl (iff' rfl (ift rfl (bd (x := .inr (.inr (shk sp (wB, i, j, num, hrs)))) rfl (bd (x := .inr (shk sp (wB, i, j, num, hrs))) rfl (bd (x := shk sp (wB, i, j, num, hrs)) rfl (bd si (bd (gate_ask e.2.1 (fun x hx => ?_) (lw_ls hrs (lo sp i) (hi sp i) (gt H i))) rfl))))))))))
   rw [e.2.2 x]
   constructor
   · rintro ⟨z1, z2⟩
     have := hr _ (aw_iff.mp z2 (lo sp i) (Int.le_refl _) li.2.1)
     exact ⟨by omega, z2⟩
   · rintro ⟨_, z⟩
     exact ⟨by omega, z⟩
theorem ask_t {n : Nat} {p : Pl} {sp : List (Int × Int)} {H : List Int} {last : Int} (h : OkP n p) : 0 ≤ (ask sp p H last).1 ∧ (ask sp p H last).1 < n := by
 obtain ⟨w, i, j, num, hrs⟩ := p
 obtain ⟨hw, i0, i1, j0, j1, ne, hr⟩ := h
 dsimp only at hw i0 i1 j0 j1
 rcases hw with rfl | rfl | rfl | rfl | rfl | rfl | rfl
 · exact ⟨j0, j1⟩
 all_goals exact ⟨i0, i1⟩
def Rv (n : Nat) (ps : List Pl) (sp : List (Int × Int)) (last : Int) (S : List Int) : Prop := S.length = n ∧ (∀ i, 0 ≤ i → i < (n : Int) → 0 ≤ gt S i ∧ gt S i ≤ last) ∧ ∀ p ∈ ps, al sp S p = true
theorem ask_le {n : Nat} {p : Pl} {sp : List (Int × Int)} {H S : List Int} {last : Int} (h : OkP n p) (hs : OkS n sp) (ha : al sp S p = true) (h0 : ∀ i, 0 ≤ i → i < (n : Int) → 0 ≤ gt S i ∧ gt H i ≤ gt S i) : (ask sp p H last).2 ≤ gt S (ask sp p H last).1 := by
 obtain ⟨w, i, j, num, hrs⟩ := p
 obtain ⟨hw, i0, i1, j0, j1, ne, hr⟩ := h
 dsimp only at hw i0 i1 j0 j1 hr
 have a1 := h0 i i0 i1
 have a2 := h0 j j0 j1
 have li := sp_le hs i
 have gate : ∀ (a b : Int), 0 ≤ a → a ≤ b → aw hrs (gt S i) a b = true → (lw hrs a b (gt H i)).getD (last + 1) ≤ gt S i := fun a b h1 h2 hw => by
   have hm := hr _ (aw_iff.mp hw a (Int.le_refl _) h2)
   rcases lw_ls hrs a b (gt H i) with ⟨x, e, x1, x2, x3, x4⟩ | ⟨e, x1⟩
   · rw [e]
     show x ≤ gt S i
     rcases Int.lt_or_le (gt S i) x with q | q
     · have z : aw hrs (gt S i) a b = false := x4 (gt S i) a1.2 q
       rw [hw] at z; cases z
     · exact q
   · have z : aw hrs (gt S i) a b = false := x1 (gt S i) a1.2 (by omega)
     rw [hw] at z; cases z
 rcases hw with rfl | rfl | rfl | rfl | rfl | rfl | rfl
 · have z := of_decide_eq_true (show decide (gt S i + hi sp i + num ≤ gt S j) = true from ha)
   show gt H i + hi sp i + num ≤ gt S j
   omega
 · have z := of_decide_eq_true (show decide (gt S j ≤ gt S i + num) = true from ha)
   show gt H j - num ≤ gt S i
   omega
 · have z := of_decide_eq_true (show decide (gt S j + hi sp j ≤ gt S i + lo sp i + num) = true from ha)
   show gt H j + hi sp j - lo sp i - num ≤ gt S i
   omega
 · have z := of_decide_eq_true (show decide (gt S i + hi sp i ≤ num) = true from ha)
   show (if decide (num < gt H i + hi sp i) = true then last + 1 else 0) ≤ gt S i
   rw [if_neg (by rw [decide_eq_true_eq]; omega)]
   omega
 · exact of_decide_eq_true (show decide (num ≤ gt S i) = true from ha)
 · refine gate 0 0 (Int.le_refl _) (Int.le_refl _) (aw_iff.mpr fun d d0 d1 => ?_)
   rw [show gt S i + d = gt S i by omega]
   exact List.contains_iff_mem.mp (show hrs.contains (gt S i) = true from ha)
 · exact gate (lo sp i) (hi sp i) li.1 li.2.1 ha
theorem ask_al {n : Nat} {p : Pl} {sp : List (Int × Int)} {H : List Int} {last : Int} (h : OkP n p) (hs : OkS n sp) (h0 : ∀ i, 0 ≤ i → i < (n : Int) → 0 ≤ gt H i ∧ gt H i ≤ last) (hl : (ask sp p H last).2 ≤ gt H (ask sp p H last).1) : al sp H p = true := by
 obtain ⟨w, i, j, num, hrs⟩ := p
 obtain ⟨hw, i0, i1, j0, j1, ne, hr⟩ := h
 dsimp only at hw i0 i1 j0 j1 hr
 have a1 := h0 i i0 i1
 have a2 := h0 j j0 j1
 have li := sp_le hs i
 have gate : ∀ (a b : Int), (lw hrs a b (gt H i)).getD (last + 1) ≤ gt H i → aw hrs (gt H i) a b = true := fun a b hw => by
   rcases lw_ls hrs a b (gt H i) with ⟨x, e, x1, x2, x3, x4⟩ | ⟨e, x1⟩
   · rw [e] at hw
     have hw : x ≤ gt H i := hw
     rw [show gt H i = x by omega]; exact x3
   · rw [e] at hw
     have hw : last + 1 ≤ gt H i := hw
     omega
 rcases hw with rfl | rfl | rfl | rfl | rfl | rfl | rfl
 · have z : gt H i + hi sp i + num ≤ gt H j := hl
   exact decide_eq_true z
 · have z : gt H j - num ≤ gt H i := hl
   exact decide_eq_true (show gt H j ≤ gt H i + num by omega)
 · have z : gt H j + hi sp j - lo sp i - num ≤ gt H i := hl
   exact decide_eq_true (show gt H j + hi sp j ≤ gt H i + lo sp i + num by omega)
 · have z : (if decide (num < gt H i + hi sp i) = true then last + 1 else 0) ≤ gt H i := hl
   refine decide_eq_true (show gt H i + hi sp i ≤ num from ?_)
   rcases Int.lt_or_le num (gt H i + hi sp i) with q | q
   · rw [if_pos (decide_eq_true q)] at z; omega
   · exact q
 · have z : num ≤ gt H i := hl
   exact decide_eq_true z
 · have z := aw_iff.mp (gate 0 0 hl) 0 (Int.le_refl _) (Int.le_refl _)
   rw [show gt H i + 0 = gt H i by omega] at z
   exact List.contains_iff_mem.mpr z
 · exact gate (lo sp i) (hi sp i) hl
theorem always63 {n : Nat} {p : Pl} {sp : List (Int × Int)} {sch : List Int} (h : OkP n p) (hs : OkS n sp) (hc : sch.length = n) : m_l_always_0 p sp sch = some (al sp sch p) := by
 obtain ⟨w, i, j, num, hrs⟩ := p
 obtain ⟨hw, i0, i1, j0, j1, _, hr⟩ := h
 dsimp only at hw i0 i1 j0 j1
 have si := at_gt hc i0 i1
 have sj := at_gt hc j0 j1
 have pi := at_sp hs i0 i1
 have pj := at_sp hs j0 j1
 have li := sp_le hs i
 unfold m_l_always_0
 refine ltE (ltE ?_)
 rcases hw with rfl | rfl | rfl | rfl | rfl | rfl | rfl
 · exact ift rfl (bd sj (bd si (bd pi rfl)))
 · exact iff' rfl (ift rfl (bd sj (bd si rfl)))
 · exact iff' rfl (iff' rfl (ift rfl (bd sj (bd pj (bd si (bd pi rfl))))))
 · exact iff' rfl (iff' rfl (iff' rfl (ift rfl (bd si (bd pi rfl)))))
 · exact iff' rfl (iff' rfl (iff' rfl (iff' rfl (ift rfl (bd si rfl)))))
 · exact iff' rfl (iff' rfl (iff' rfl (iff' rfl (iff' rfl (ift rfl (bd si rfl))))))
 · exact iff' rfl (iff' rfl (iff' rfl (iff' rfl (iff' rfl (iff' rfl (bd si (bd pi (bd pi (bd (within_ok (by omega) (by omega) (by omega) (by omega)) rfl)))))))))
theorem always64 {n : Nat} {p : Pl} {sp : List (Int × Int)} {sch : List Int} (h : OkP n p) (hs : OkS n sp) (hc : sch.length = n) : m_l_always_1 p sp sch = some (al sp sch p) := always63 h hs hc
theorem sum_set : ∀ (l : List Int) (k : Nat) (x : Int), k < l.length → (l.set k x).sum = l.sum - l[k]?.getD 0 + x
 | [], _, _, h => absurd h (by simp)
 | y :: l, 0, x, _ => by
   show (x :: l).sum = (y :: l).sum - y + x
   rw [List.sum_cons, List.sum_cons]; omega
 | y :: l, k + 1, x, h => by
   show (y :: l.set k x).sum = (y :: l).sum - l[k]?.getD 0 + x
   have := sum_set l k x (by rw [List.length_cons] at h; omega)
   rw [List.sum_cons, List.sum_cons, this]; omega
theorem sum_le : ∀ (l : List Int), (∀ x ∈ l, x ≤ 96) → l.sum ≤ 96 * (l.length : Int)
 | [], _ => by decide
 | y :: l, h => by
   have := sum_le l fun z hz => h z (List.mem_cons_of_mem _ hz)
   have := h y (List.mem_cons_self ..)
   rw [List.sum_cons, List.length_cons]; omega
theorem mem_gt {l : List Int} {x : Int} (h : x ∈ l) : ∃ i : Int, 0 ≤ i ∧ i < l.length ∧ gt l i = x := by
 obtain ⟨k, hk, e⟩ := List.mem_iff_getElem.mp h
 refine ⟨(k : Int), by omega, by omega, ?_⟩
 unfold gt
 rw [Int.toNat_natCast, List.getElem?_eq_getElem hk, e]; rfl
theorem gt_mem {l : List Int} {i : Int} (h0 : 0 ≤ i) (h1 : i < l.length) : gt l i ∈ l := by
 have hk : i.toNat < l.length := by omega
 unfold gt
 rw [List.getElem?_eq_getElem hk]
 exact List.getElem_mem hk
theorem lmax_some {l : List Int} (h : 1 ≤ l.length) : ∃ m, lMax l = some m := by
 cases l with
 | nil => exact absurd h (by decide)
 | cons x l => exact ⟨_, rfl⟩
theorem forR_app {α σ ρ : Type} {f : σ → α → Option (ρ ⊕ σ)} {M : List α} : ∀ {L : List α} {s t : σ}, forR f s L = some (.inr t) → forR f s (L ++ M) = forR f t M
 | [], s, t, h => by
   have e : (Sum.inr s : ρ ⊕ σ) = .inr t := Option.some.inj h
   cases e; rfl
 | x :: L, s, t, h => by
   cases hf : f s x with
   | none => simp [forR, hf] at h
   | some o =>
     cases o with
     | inl r => simp [forR, hf] at h
     | inr s' =>
       rw [forR_step hf] at h
       show forR f s (x :: (L ++ M)) = _
       rw [forR_step hf]
       exact forR_app h
section
variable {n : Nat} {ps : List Pl} {sp : List (Int × Int)} {last : Int}
structure Iv (n : Nat) (ps : List Pl) (sp : List (Int × Int)) (last : Int) (H : List Int) (L : List (Int × Int × Int)) : Prop where
 len : H.length = n
 rg : ∀ i, 0 ≤ i → i < (n : Int) → 0 ≤ gt H i ∧ gt H i ≤ last
 wk : forR (m_l_walk_b2 ps sp last) (List.replicate n 0) L = some (.inr H)
 cnt : (L.length : Int) ≤ H.sum
 bel : ∀ S, Rv n ps sp last S → ∀ i, 0 ≤ i → i < (n : Int) → gt H i ≤ gt S i
def Fl (n : Nat) (ps : List Pl) (sp : List (Int × Int)) (last : Int) (L : List (Int × Int × Int)) : Prop :=
 L.length ≤ 2000 ∧ ∃ H, forR (m_l_walk_b2 ps sp last) (List.replicate n 0) L = some (.inr H) ∧ H.length = n ∧ (∃ i, 0 ≤ i ∧ i < (n : Int) ∧ last < gt H i) ∧ ∀ S, Rv n ps sp last S → ∀ i, 0 ≤ i → i < (n : Int) → gt H i ≤ gt S i
theorem Iv.sum {H : List Int} {L : List (Int × Int × Int)} (v : Iv n ps sp last H L) (hl : last ≤ 96) (hn : n ≤ 12) : H.sum ≤ 1152 := by
 have := sum_le H fun x hx => by
   obtain ⟨i, i0, i1, e⟩ := mem_gt hx
   have := v.rg i i0 (by rw [← v.len]; exact i1)
   omega
 rw [v.len] at this
 omega
theorem Iv.hr {H : List Int} {L : List (Int × Int × Int)} (v : Iv n ps sp last H L) (hl : last ≤ 96) : Hr n H := ⟨v.len, fun i i0 i1 => by have := v.rg i i0 i1; omega⟩
theorem lift_ok {H : List Int} {L : List (Int × Int × Int)} {pre suf : List Pl} {p : Pl} (v : Iv n ps sp last H L) (hp : ∀ p ∈ ps, OkP n p) (hs : OkS n sp) (n1 : 1 ≤ n) (hn : n ≤ 12) (l0 : 0 ≤ last) (hl : last ≤ 96) (e : ps = pre ++ p :: suf) (hx : gt H (ask sp p H last).1 < (ask sp p H last).2) :
   ∃ H', setAt H (ask sp p H last).1 (ask sp p H last).2 = some H' ∧ ((ask sp p H last).2 ≤ last → Iv n ps sp last H' (L ++ [((ask sp p H last).1, (ask sp p H last).2, (pre.length : Int))]) ∧ H.sum < H'.sum) ∧
     (last < (ask sp p H last).2 → Fl n ps sp last (L ++ [((ask sp p H last).1, (ask sp p H last).2, (pre.length : Int))])) := by
 have hm : p ∈ ps := by rw [e]; exact List.mem_append_right _ (List.mem_cons_self ..)
 have ok := hp p hm
 obtain ⟨t0, t1⟩ := ask_t (sp := sp) (H := H) (last := last) ok
 have ea := asks_ok (last := last) ok hs (v.hr hl)
 have lq := v.sum hl hn
 have lc := v.cnt
 generalize eq : ask sp p H last = q at *
 obtain ⟨t, x⟩ := q
 dsimp only at t0 t1 hx ⊢
 have hlen : t < (H.length : Int) := by rw [v.len]; exact t1
 refine ⟨H.set t.toNat x, setAt_ok t0 hlen, ?_⟩
 have hg : ∀ i, 0 ≤ i → gt (H.set t.toNat x) i = if t = i then x else gt H i := fun i i0 => gt_set t0 hlen i0
 obtain ⟨m, em⟩ := lmax_some (l := H) (by rw [v.len]; exact n1)
 obtain ⟨_, mm, _⟩ := lMax_is em
 obtain ⟨k, k0, k1, ek⟩ := mem_gt mm
 have mle : m ≤ last := by have := v.rg k k0 (by rw [← v.len]; exact k1); omega
 have plen : pre.length < ps.length := by rw [e, List.length_append, List.length_cons]; omega
 have wk : forR (m_l_walk_b2 ps sp last) (List.replicate n 0) (L ++ [(t, x, (pre.length : Int))]) = some (.inr (H.set t.toNat x)) := by
   rw [forR_app v.wk]
   have step : m_l_walk_b2 ps sp last H (t, x, (pre.length : Int)) = some (.inr (H.set t.toNat x)) := by
     unfold m_l_walk_b2
     refine bd (x := false) rfl (iff' rfl (bd (x := false) ?_ (iff' rfl ?_)))
     · exact iff' (decide_eq_false (show ¬ ((pre.length : Int) < 0) by omega)) (iff' (decide_eq_false (show ¬ ((ps.length : Int) ≤ (pre.length : Int)) by omega)) (bd em (congrArg some (decide_eq_false (by omega)))))
     · refine bd (x := p) (by rw [e]; exact at_app pre p suf) (bd ea (iff' (by rw [decide_eq_true rfl]; rfl) (bd (at_gt v.len t0 t1) (iff' (decide_eq_false (show ¬ x ≤ gt H t by omega)) (bd (setAt_ok t0 hlen) rfl)))))
   rw [forR_step step]; rfl
 have bel : ∀ S, Rv n ps sp last S → ∀ i, 0 ≤ i → i < (n : Int) → gt (H.set t.toNat x) i ≤ gt S i := fun S hS i i0 i1 => by
   rw [hg i i0]
   by_cases c : t = i
   · rw [if_pos c, ← c]
     have := ask_le (last := last) (H := H) ok hs (hS.2.2 p hm) (fun i i0 i1 => ⟨(hS.2.1 i i0 i1).1, v.bel S hS i i0 i1⟩)
     rw [eq] at this
     exact this
   · rw [if_neg c]; exact v.bel S hS i i0 i1
 have hsum : (H.set t.toNat x).sum = H.sum - gt H t + x := sum_set H t.toNat x (by omega)
 have hsum' : H.sum < (H.set t.toNat x).sum := by rw [hsum]; omega
 have ll : ((L ++ [(t, x, (pre.length : Int))]).length : Int) = L.length + 1 := by rw [List.length_append, List.length_singleton]; omega
 refine ⟨fun hx2 => ⟨⟨by rw [List.length_set]; exact v.len, fun i i0 i1 => ?_, wk, by rw [ll]; omega, bel⟩, hsum'⟩, fun hx2 => ⟨by omega, _, wk, by rw [List.length_set]; exact v.len, ⟨t, t0, t1, ?_⟩, bel⟩⟩
 · rw [hg i i0]
   by_cases c : t = i
   · rw [if_pos c]
     have := v.rg t t0 t1
     omega
   · rw [if_neg c]; exact v.rg i i0 i1
 · rw [hg t t0, if_pos rfl]; exact hx2
def St (sp : List (Int × Int)) (last : Int) (ps : List Pl) (H : List Int) : Prop := ∀ p ∈ ps, (ask sp p H last).2 ≤ gt H (ask sp p H last).1
theorem round_ok (hp : ∀ p ∈ ps, OkP n p) (hs : OkS n sp) (n1 : 1 ≤ n) (hn : n ≤ 12) (l0 : 0 ≤ last) (hl : last ≤ 96) : ∀ (suf pre : List Pl) (H : List Int) (L : List (Int × Int × Int)) (f : Bool), ps = pre ++ suf → Iv n ps sp last H L →
   (∃ H' L' f', forR (m_least_schedule_b3 sp last) (H, L, f) ((enumF (pre.length : Int) suf).map fun q => (q.1, gf sp q.2)) = some (.inr (H', L', f')) ∧ Iv n ps sp last H' L' ∧ ((H' = H ∧ L' = L ∧ f' = f ∧ St sp last suf H) ∨ (f' = true ∧ H.sum < H'.sum))) ∨
   (∃ L', forR (m_least_schedule_b3 sp last) (H, L, f) ((enumF (pre.length : Int) suf).map fun q => (q.1, gf sp q.2)) = some (.inl (none, L')) ∧ Fl n ps sp last L')
 | [], pre, H, L, f, _, v => .inl ⟨H, L, f, rfl, v, .inl ⟨rfl, rfl, rfl, fun p h => nomatch h⟩⟩
 | p :: suf, pre, H, L, f, e, v => by
   have hm : p ∈ ps := by rw [e]; exact List.mem_append_right _ (List.mem_cons_self ..)
   have ok := hp p hm
   obtain ⟨t0, t1⟩ := ask_t (sp := sp) (H := H) (last := last) ok
   have ea := asked_ok (last := last) ok hs (v.hr hl)
   have e2 : ps = (pre ++ [p]) ++ suf := by rw [e, List.append_assoc]; rfl
   have el : ((pre ++ [p]).length : Int) = (pre.length : Int) + 1 := by rw [List.length_append, List.length_singleton]; omega
   show (∃ H' L' f', forR (m_least_schedule_b3 sp last) (H, L, f) (((pre.length : Int), gf sp p) :: ((enumF ((pre.length : Int) + 1) suf).map fun q => (q.1, gf sp q.2))) = _ ∧ _) ∨ (∃ L', forR (m_least_schedule_b3 sp last) (H, L, f) (((pre.length : Int), gf sp p) :: ((enumF ((pre.length : Int) + 1) suf).map fun q => (q.1, gf sp q.2))) = _ ∧ _)
   rw [← el]
   by_cases c : gt H (ask sp p H last).1 < (ask sp p H last).2
   · obtain ⟨H1, s1, s2, s3⟩ := lift_ok v hp hs n1 hn l0 hl e c
     have lq := v.sum hl hn
     have lc := v.cnt
     have ap : app L ((ask sp p H last).1, (ask sp p H last).2, (pre.length : Int)) = some (L ++ [((ask sp p H last).1, (ask sp p H last).2, (pre.length : Int))]) := app_ok (lt_big (by omega))
     by_cases c2 : last < (ask sp p H last).2
     · refine .inr ⟨_, ?_, s3 c2⟩
       have st : m_least_schedule_b3 sp last (H, L, f) ((pre.length : Int), gf sp p) = some (.inl (none, L ++ [((ask sp p H last).1, (ask sp p H last).2, (pre.length : Int))])) := by
         unfold m_least_schedule_b3
         refine bd ea ?_
         exact bd (x := .inl (none, L ++ [((ask sp p H last).1, (ask sp p H last).2, (pre.length : Int))])) (bd (at_gt v.len t0 t1) (ift (decide_eq_true c) (bd s1 (bd ap (ltE (ift (decide_eq_true c2) rfl)))))) rfl
       show (m_least_schedule_b3 sp last (H, L, f) ((pre.length : Int), gf sp p)).bind _ = _
       rw [st]; rfl
     · obtain ⟨v1, hs1⟩ := s2 (by omega)
       have st : m_least_schedule_b3 sp last (H, L, f) ((pre.length : Int), gf sp p) = some (.inr (H1, L ++ [((ask sp p H last).1, (ask sp p H last).2, (pre.length : Int))], true)) := by
         unfold m_least_schedule_b3
         refine bd ea ?_
         exact bd (x := .inr (H1, L ++ [((ask sp p H last).1, (ask sp p H last).2, (pre.length : Int))], true)) (bd (at_gt v.len t0 t1) (ift (decide_eq_true c) (bd s1 (bd ap (ltE (iff' (decide_eq_false c2) rfl)))))) (orLi rfl)
       rw [forR_step st]
       rcases round_ok hp hs n1 hn l0 hl suf (pre ++ [p]) H1 _ true e2 v1 with ⟨H', L', f', q1, q2, q3⟩ | ⟨L', q1, q2⟩
       · refine .inl ⟨H', L', f', q1, q2, .inr ?_⟩
         rcases q3 with ⟨rfl, rfl, rfl, _⟩ | ⟨rfl, q⟩
         · exact ⟨rfl, hs1⟩
         · exact ⟨rfl, by omega⟩
       · exact .inr ⟨L', q1, q2⟩
   · have st : m_least_schedule_b3 sp last (H, L, f) ((pre.length : Int), gf sp p) = some (.inr (H, L, f)) := by
       unfold m_least_schedule_b3
       refine bd ea ?_
       exact bd (x := .inr (H, L, f)) (bd (at_gt v.len t0 t1) (iff' (decide_eq_false c) rfl)) (orLi rfl)
     rw [forR_step st]
     rcases round_ok hp hs n1 hn l0 hl suf (pre ++ [p]) H L f e2 v with ⟨H', L', f', q1, q2, q3⟩ | ⟨L', q1, q2⟩
     · refine .inl ⟨H', L', f', q1, q2, ?_⟩
       rcases q3 with ⟨h1, h2, h3, q⟩ | q
       · refine .inl ⟨h1, h2, h3, fun z hz => ?_⟩
         rcases List.mem_cons.mp hz with rfl | hz
         · omega
         · exact q z hz
       · exact .inr q
     · exact .inr ⟨L', q1, q2⟩
theorem wh_inl {σ ρ : Type} {c : σ → Option Bool} {b : σ → Option (ρ ⊕ σ)} {m : Nat} {s : σ} {r : ρ} (h1 : c s = some true) (h2 : b s = some (.inl r)) : whileR c b (m + 1) s = some (.inl r) := by
 simp only [whileR, h1, h2, Option.bind_some, if_true]
theorem wh_inr {σ ρ : Type} {c : σ → Option Bool} {b : σ → Option (ρ ⊕ σ)} {m : Nat} {s s' : σ} (h1 : c s = some true) (h2 : b s = some (.inr s')) : whileR c b (m + 1) s = whileR c b m s' := by
 simp only [whileR, h1, h2, Option.bind_some, if_true]
theorem wh_end {σ ρ : Type} {c : σ → Option Bool} {b : σ → Option (ρ ⊕ σ)} {m : Nat} {s : σ} (h1 : c s = some false) : whileR c b (m + 1) s = some (.inr s) := by
 simp only [whileR, h1, Option.bind_some, Bool.false_eq_true, if_false]
theorem c2_ok (H : List Int) (L : List (Int × Int × Int)) (f : Bool) : m_least_schedule_c2 (H, L, f) = some f := rfl
theorem rounds_ok (hp : ∀ p ∈ ps, OkP n p) (hs : OkS n sp) (n1 : 1 ≤ n) (hn : n ≤ 12) (l0 : 0 ≤ last) (hl : last ≤ 96) : ∀ (m : Nat) (H : List Int) (L : List (Int × Int × Int)), Iv n ps sp last H L → 1200 ≤ H.sum + m →
   (∃ L', whileR m_least_schedule_c2 (m_least_schedule_b2 sp last (ps.map (gf sp))) (m + 1) (H, L, true) = some (.inl (none, L')) ∧ Fl n ps sp last L') ∨
   (∃ H' L', whileR m_least_schedule_c2 (m_least_schedule_b2 sp last (ps.map (gf sp))) (m + 1) (H, L, true) = some (.inr (H', L', false)) ∧ Iv n ps sp last H' L' ∧ St sp last ps H')
 | 0, H, L, v, hm => by
   have := v.sum hl hn
   exact absurd hm (by omega)
 | m + 1, H, L, v, hm => by
   have em : enumF (0 : Int) (ps.map (gf sp)) = (enumF ((([] : List Pl).length : Nat) : Int) ps).map fun q => (q.1, gf sp q.2) := enumF_map _ _ _
   rcases round_ok hp hs n1 hn l0 hl ps [] H L false rfl v with ⟨H', L', f', q1, q2, q3⟩ | ⟨L', q1, q2⟩
   · rw [← em] at q1
     have hb : m_least_schedule_b2 sp last (ps.map (gf sp)) (H, L, true) = some (.inr (H', L', f')) := by
       unfold m_least_schedule_b2
       exact ltE (bd q1 (orLi rfl))
     rcases q3 with ⟨rfl, rfl, rfl, q⟩ | ⟨rfl, q⟩
     · exact .inr ⟨H', L', by rw [wh_inr (c2_ok _ _ _) hb, wh_end (c2_ok _ _ _)], q2, q⟩
     · rcases rounds_ok hp hs n1 hn l0 hl m H' L' q2 (by omega) with ⟨L'', z1, z2⟩ | ⟨H'', L'', z1, z2, z3⟩
       · exact .inl ⟨L'', by rw [wh_inr (c2_ok _ _ _) hb]; exact z1, z2⟩
       · exact .inr ⟨H'', L'', by rw [wh_inr (c2_ok _ _ _) hb]; exact z1, z2, z3⟩
   · rw [← em] at q1
     have hb : m_least_schedule_b2 sp last (ps.map (gf sp)) (H, L, true) = some (.inl (none, L')) := by
       unfold m_least_schedule_b2
       exact ltE (bd q1 rfl)
     exact .inl ⟨L', wh_inl (c2_ok _ _ _) hb, q2⟩
def Ans (n : Nat) (ps : List Pl) (sp : List (Int × Int)) (last : Int) (r : Option (List Int) × List (Int × Int × Int)) : Prop := (r.1 = none ∧ Fl n ps sp last r.2) ∨ ∃ H, r.1 = some H ∧ Iv n ps sp last H r.2 ∧ St sp last ps H
theorem rep_get (n : Nat) (i : Int) : gt (List.replicate n 0) i = 0 := by
 unfold gt
 rw [List.getElem?_replicate]
 split <;> rfl
theorem rep_sum : ∀ n : Nat, (List.replicate n (0 : Int)).sum = 0
 | 0 => rfl
 | n + 1 => by rw [List.replicate_succ, List.sum_cons, rep_sum n]; rfl
theorem wanted_ok (hp : ∀ p ∈ ps, OkP n p) (hs : OkS n sp) (lp : ps.length ≤ 1000) : forN (m_least_schedule_b1 sp) [] (ps.map ordf) = some (ps.map (gf sp)) := by
 have gen : ∀ (L : List Pl) (acc : List (List UU)), (∀ q ∈ L, OkP n q) → acc.length + L.length ≤ 100000 → forN (m_least_schedule_b1 sp) acc (L.map ordf) = some (acc ++ L.map (gf sp)) := by
   intro L
   induction L with
   | nil => intro acc _ _; show some acc = some (acc ++ []); rw [List.append_nil]
   | cons q L ih =>
     intro acc hL hlen
     have hlen' : acc.length + (L.length + 1) ≤ 100000 := hlen
     rw [List.map_cons, forN_cons, List.map_cons]
     refine bd (x := acc ++ [gf sp q]) (by unfold m_least_schedule_b1; exact bd (gated_ok (hL q (List.mem_cons_self ..)) hs) (bd (app_ok (lt_big (by omega))) rfl)) ?_
     rw [ih _ (fun z hz => hL z (List.mem_cons_of_mem _ hz)) (by rw [List.length_append, List.length_singleton]; omega), List.append_assoc]; rfl
 rw [gen ps [] hp (by show 0 + ps.length ≤ 100000; omega), List.nil_append]
theorem least_ok (hp : ∀ p ∈ ps, OkP n p) (hs : OkS n sp) (n1 : 1 ≤ n) (hn : n ≤ 12) (l0 : 0 ≤ last) (hl : last ≤ 96) (lp : ps.length ≤ 1000) : ∃ r, m_least_schedule sp (ps.map ordf) last = some r ∧ Ans n ps sp last r := by
 have v : Iv n ps sp last (List.replicate n 0) [] := ⟨List.length_replicate, fun i _ _ => by rw [rep_get]; exact ⟨Int.le_refl _, l0⟩, rfl, by rw [rep_sum]; exact Int.le_refl _, fun S hS i i0 i1 => by rw [rep_get]; exact (hS.2.1 i i0 i1).1⟩
 have er : repL [(0 : Int)] (sp.length : Int) = some (List.replicate n 0) := by rw [hs.1]; exact repL_one 0 (by omega)
 unfold m_least_schedule
 refine bdE (check_ok hp hs.1) (bdE (wanted_ok hp hs lp) (bdE er ?_))
 rcases rounds_ok hp hs n1 hn l0 hl 4999 _ _ v (by rw [rep_sum]; decide) with ⟨L', z1, z2⟩ | ⟨H', L', z1, z2, z3⟩
 · exact ⟨(none, L'), ltE (bd z1 rfl), .inl ⟨rfl, z2⟩⟩
 · exact ⟨(some H', L'), ltE (bd z1 (orRi rfl)), .inr ⟨H', rfl, z2, z3⟩⟩
theorem toldl_ok {kind d : Int} (hp : ∀ p ∈ ps, OkP n p) (hs : OkS n sp) (n1 : 1 ≤ n) (hn : n ≤ 12) (l0 : 0 ≤ last) (hl : last ≤ 96) (lp : ps.length ≤ 1000) (hk : kind = 0 → last = 48) : ∃ r, m_l_told sp (ps.map ordf) kind last = some (some r) ∧ Ans n ps sp last r := by
 obtain ⟨r, e, a⟩ := least_ok hp hs n1 hn l0 hl lp
 refine ⟨r, ?_, a⟩
 unfold m_l_told
 refine bd (x := r) ?_ (bd (x := false) ?_ (iff' rfl rfl))
 · by_cases c : kind = 0
   · have e48 : m_least_schedule sp (ps.map ordf) 48 = some r := by rw [← hk c]; exact e
     exact ift (decide_eq_true c) (bd e48 rfl)
   · refine iff' (decide_eq_false c) (bd (x := r) ?_ rfl)
     by_cases c2 : kind = 1
     · exact ift (decide_eq_true c2) (bd e rfl)
     · exact iff' (decide_eq_false c2) (bd e rfl)
 · refine iff' (by rw [decide_eq_true rfl]; rfl) (bd (words_ok ps lp) (bd (words_ok ps lp) (bd (guard_ok (by rw [guard_w hp]; rfl)) ?_)))
   rw [decide_eq_true rfl]; rfl
theorem zeros_ok (hs : OkS n sp) (hn : n ≤ 12) : forN m_l_walk_b1 [] sp = some (List.replicate n 0) := by
 rw [forN_flat (f := m_l_walk_b1) (h := fun _ => [(0 : Int)]) (fun _ => Nat.le_refl _) (le_big (by show 0 + sp.length ≤ 100000; rw [hs.1]; omega)) (fun acc x hx hb => bd (app_ok hb) rfl), List.nil_append, flat_sing (fun _ => (0 : Int))]
 rw [← hs.1]
 congr 1
 exact List.map_const' ..
theorem ints63 (f : List Int → Int → Option (List Int)) (hf : ∀ x, f [] x = some []) : ∀ xs : List Int, forN f [] xs = some []
 | [] => rfl
 | x :: xs => by rw [forN_cons, hf x]; exact ints63 f hf xs
theorem lmax_le {H : List Int} {c : Int} (n1 : 1 ≤ H.length) (h : ∀ x ∈ H, x ≤ c) : ∃ m, lMax H = some m ∧ m ≤ c := by
 obtain ⟨m, em⟩ := lmax_some n1
 obtain ⟨_, mm, _⟩ := lMax_is em
 exact ⟨m, em, h m mm⟩
theorem all_le {H : List Int} {c : Int} (hn : H.length = n) (h : ∀ i, 0 ≤ i → i < (n : Int) → 0 ≤ gt H i ∧ gt H i ≤ c) : ∀ x ∈ H, x ≤ c := fun x hx => by
 obtain ⟨i, i0, i1, e⟩ := mem_gt hx
 rw [← e]; exact (h i i0 (by rw [← hn]; exact i1)).2
theorem sched_ok {H : List Int} {L : List (Int × Int × Int)} {rows : List (List Int)} (v : Iv n ps sp last H L) (st : St sp last ps H) (hp : ∀ p ∈ ps, OkP n p) (hs : OkS n sp) (n1 : 1 ≤ n) (hn : n ≤ 12) (hl : last ≤ 96) (hr : ∀ l ∈ rows, Lg n sp l) : m_l_schedule_holds H ps sp last rows = some true := by
 unfold m_l_schedule_holds
 obtain ⟨m, em, hm⟩ := lmax_le (by rw [v.len]; exact n1) (all_le v.len v.rg)
 refine bd em (iff' (decide_eq_false (by omega)) (bd (forR_all fun p hpm => ?_) rfl))
 have ok := hp p hpm
 obtain ⟨t0, t1⟩ := ask_t (sp := sp) (H := H) (last := last) ok
 have ha := ask_al (last := last) ok hs v.rg (st p hpm)
 unfold m_l_schedule_holds_b1
 refine bd (asks_ok ok hs (v.hr hl)) (bd (x := false) ?_ (iff' rfl ?_))
 · refine bd (at_gt v.len t0 t1) (iff' (decide_eq_false (by have := st p hpm; omega)) (bd (always63 ok hs v.len) ?_))
   rw [ha]; rfl
 · have key : ∀ rows : List (List Int), (∀ l ∈ rows, Lg n sp l) → forN (m_l_schedule_holds_b2 H p) [] rows = some [] := by
     intro rows
     induction rows with
     | nil => intro _; rfl
     | cons l rows ih =>
       intro h
       rw [forN_cons]
       refine bd (x := []) ?_ (ih fun z hz => h z (List.mem_cons_of_mem _ hz))
       unfold m_l_schedule_holds_b2
       have hl := h l (List.mem_cons_self ..)
       refine bd (keeps_ok ok v.len hl.1) ?_
       rw [kp_al ok hl ha]; rfl
   exact bd (key rows hr) (iff' rfl rfl)
theorem answer63 {r : Option (List Int) × List (Int × Int × Int)} {rows : List (List Int)} (a : Ans n ps sp last r) (hp : ∀ p ∈ ps, OkP n p) (hs : OkS n sp) (n1 : 1 ≤ n) (hn : n ≤ 12) (hl : last ≤ 96) (hr : ∀ l ∈ rows, Lg n sp l) : m_l_answer_holds r ps sp last rows = some true := by
 obtain ⟨r1, L⟩ := r
 unfold m_l_answer_holds
 refine iff' rfl ?_
 rcases a with ⟨e, _, H, wk, hlen, ⟨i, i0, i1, i2⟩, _⟩ | ⟨H, e, v, st⟩
 · have e : r1 = none := e
   subst e
   refine bd (x := some H) (by unfold m_l_walk; exact bd (zeros_ok hs hn) (bd wk (orRi rfl))) (iff' rfl (ift rfl (bd (x := H) rfl ?_)))
   obtain ⟨m, em⟩ := lmax_some (l := H) (by rw [hlen]; exact n1)
   obtain ⟨_, _, mm⟩ := lMax_is em
   have := mm _ (gt_mem i0 (by rw [hlen]; exact i1))
   exact bd em (congrArg some (decide_eq_true (by omega)))
 · have e : r1 = some H := e
   subst e
   refine bd (x := some H) (by unfold m_l_walk; exact bd (zeros_ok hs hn) (bd v.wk (orRi rfl))) (iff' rfl (iff' rfl (bd (x := false) ?_ (iff' rfl ?_))))
   · refine iff' rfl (bd (x := H) rfl (bd (x := H) rfl (iff' (by rw [decide_eq_true rfl]; rfl) (bd (x := H) rfl ?_))))
     exact bd (ints63 _ (fun x => rfl) H) rfl
   · exact bd (x := H) rfl (bd (sched_ok v st hp hs n1 hn hl hr) rfl)
theorem pick_any {h : List Int} (hh : Hd h) {m : Int} (hm : m < 2 ^ 200) : ∃ r h', m_l_pick h m = some (r, h') ∧ 0 ≤ r ∧ Hd h' := by
 by_cases c : 1 ≤ m
 · obtain ⟨r, h', e, r0, _, hh'⟩ := pick_ok hh c hm
   exact ⟨r, h', e, r0, hh'⟩
 · exact ⟨0, h, by unfold m_l_pick; exact ift (decide_eq_true (by omega)) rfl, Int.le_refl _, hh⟩
theorem below_ok {r1 : Option (List Int)} {L : List (Int × Int × Int)} {S : List Int} (a : Ans n ps sp last (r1, L)) (hp : ∀ p ∈ ps, OkP n p) (hs : OkS n sp) (n1 : 1 ≤ n) (hn : n ≤ 12) (lp : ps.length ≤ 1000) (hS : S.length = n) (hS0 : ∀ x ∈ S, 0 ≤ x) : m_l_not_below r1 ps sp S last = some true := by
 unfold m_l_not_below
 obtain ⟨m, em⟩ := lmax_some (l := S) (by rw [hS]; exact n1)
 obtain ⟨_, _, mm⟩ := lMax_is em
 have ef : forN (m_l_not_below_b1 sp S) [] ps = some (ps.flatMap fun p => if al sp S p = true then [] else [()]) := by
   rw [forN_flat (f := m_l_not_below_b1 sp S) (h := fun p => if al sp S p = true then [] else [()]) (fun p => by split <;> simp) (le_big (by show 0 + ps.length ≤ 100000; omega)) (fun acc p hpm hb => by
     unfold m_l_not_below_b1
     refine bd (always64 (hp p hpm) hs hS) ?_
     cases al sp S p with
     | true => rw [if_pos rfl, List.append_nil]; rfl
     | false => rw [if_neg (show ¬ (false = true) by decide)]; exact ift rfl (bd (app_ok hb) rfl)), List.nil_append]
 by_cases c1 : last < m
 · exact bd (x := true) (bd em (ift (decide_eq_true c1) rfl)) (ift rfl rfl)
 rcases first_split (fun p => al sp S p) ps with h | ⟨pre, p, suf, e, h1, h2⟩
 · have rv : Rv n ps sp last S := ⟨hS, fun i i0 i1 => by
     have hm := gt_mem i0 (show i < (S.length : Int) by rw [hS]; exact i1)
     have := mm _ hm
     exact ⟨hS0 _ hm, by omega⟩, h⟩
   have e0 : (ps.flatMap fun p => if al sp S p = true then ([] : List Unit) else [()]) = [] := by
     rw [List.flatMap_eq_nil_iff]
     intro p hpm
     rw [if_pos (h p hpm)]
   refine bd (x := false) (bd em (iff' (decide_eq_false c1) (bd ef (by rw [e0]; rfl)))) (iff' rfl ?_)
   rcases a with ⟨_, _, H, _, _, ⟨i, i0, i1, i2⟩, bel⟩ | ⟨H, e, v, st⟩
   · have h3 := bel S rv i i0 i1
     have h4 := (rv.2.1 i i0 i1).2
     omega
   · have e : r1 = some H := e
     subst e
     refine iff' rfl (bd (rngO_ok (by decide) (by decide) (by omega) (by omega)) (bd (x := []) ?_ rfl))
     have key : ∀ ks : List Int, (∀ k ∈ ks, 0 ≤ k ∧ k < (n : Int)) → forN (m_l_not_below_b2 (some H) S) [] ks = some [] := by
       intro ks
       induction ks with
       | nil => intro _; rfl
       | cons k ks ih =>
         intro hk
         rw [forN_cons]
         refine bd (x := []) ?_ (ih fun z hz => hk z (List.mem_cons_of_mem _ hz))
         obtain ⟨k0, k1⟩ := hk k (List.mem_cons_self ..)
         have := v.bel S rv k k0 k1
         unfold m_l_not_below_b2
         exact bd (at_gt hS k0 k1) (bd (x := H) rfl (bd (at_gt v.len k0 k1) (iff' (decide_eq_false (by omega)) rfl)))
     exact key _ fun k hk => by
       have := mem_rng.mp hk
       rw [hS] at this; exact this
 · refine bd (x := true) (bd em (iff' (decide_eq_false c1) (bd ef (congrArg some (decide_eq_true ?_))))) (ift rfl rfl)
   have hin : () ∈ (ps.flatMap fun p => if al sp S p = true then ([] : List Unit) else [()]) := List.mem_flatMap.mpr ⟨p, by rw [e]; exact List.mem_append_right _ (List.mem_cons_self ..), by rw [if_neg (by rw [h2]; decide)]; exact List.mem_singleton.mpr rfl⟩
   have := List.length_pos_of_mem hin
   omega
theorem rivals_ok {r1 : Option (List Int)} {L : List (Int × Int × Int)} {S1 S2 hd : List Int} (a : Ans n ps sp last (r1, L)) (hh : Hd hd) (hp : ∀ p ∈ ps, OkP n p) (hs : OkS n sp) (n1 : 1 ≤ n) (hn : n ≤ 12) (hl : last ≤ 96) (lp : ps.length ≤ 1000) (h1 : S1.length = n) (h1' : ∀ x ∈ S1, 0 ≤ x) (h2 : S2.length = n) (h2' : ∀ x ∈ S2, 0 ≤ x) : ∃ hd', m_l_rivals_hold hd r1 ps sp last [S1, S2] = some (true, hd') ∧ Hd hd' := by
 unfold m_l_rivals_hold
 obtain ⟨hd', S3, e3, hh', h3, h3'⟩ : ∃ hd' S3, (if r1.isSome = true then ((r1).bind fun x14 => (m_l_lowered hd x14).bind fun q16 => some (q16.2, q16.1)) else (some (hd, S1)) : Option ((List Int) × (List Int))) = some (hd', S3) ∧ Hd hd' ∧ S3.length = n ∧ ∀ x ∈ S3, 0 ≤ x := by
   rcases a with ⟨e, _⟩ | ⟨H, e, v, st⟩
   · have e : r1 = none := e
     subst e
     exact ⟨hd, S1, rfl, hh, h1, h1'⟩
   · have e : r1 = some H := e
     subst e
     obtain ⟨k, g1, e1, k0, k1, hg1⟩ := pick_ok hh (n := (H.length : Int)) (by rw [v.len]; omega) (by rw [v.len]; omega)
     rw [v.len] at k1
     have hb := v.rg k k0 k1
     obtain ⟨x, g2, e2, x0, hg2⟩ := pick_any hg1 (m := gt H k) (by omega)
     refine ⟨g2, H.set k.toNat x, ift rfl (bd (x := H) rfl (bd (x := (H.set k.toNat x, g2)) ?_ rfl)), hg2, by rw [List.length_set]; exact v.len, fun y hy => ?_⟩
     · unfold m_l_lowered
       exact bd e1 (bd (at_gt v.len k0 k1) (bd e2 (bd (setAt_ok k0 (by rw [v.len]; exact k1)) rfl)))
     · rcases List.mem_or_eq_of_mem_set hy with z | z
       · obtain ⟨i, i0, i1, e⟩ := mem_gt z
         have := v.rg i i0 (by rw [← v.len]; exact i1)
         omega
       · omega
 refine ⟨hd', ?_, hh'⟩
 refine bd (at0 _ _) (bd e3 (bd (x := [S1, S2, S3]) rfl (bd (forR_all fun S hS => ?_) (orRi rfl))))
 simp only [List.mem_cons, List.not_mem_nil, or_false] at hS
 unfold m_l_rivals_hold_b1
 rcases hS with rfl | rfl | rfl
 · exact bd (below_ok a hp hs n1 hn lp h1 h1') rfl
 · exact bd (below_ok a hp hs n1 hn lp h2 h2') rfl
 · exact bd (below_ok a hp hs n1 hn lp h3 h3') rfl
end
theorem refuse63 {sp : List (Int × Int)} {os : List (List UU)} {k : Nat} (hk : k < os.length) (hl : os.length ≤ 1000) (h1 : ∀ j : Nat, j < k → ∀ o, os[j]? = some o → m_is_order sp o = some true) (h2 : ∀ o, os[k]? = some o → m_is_order sp o = some false) : m_l_refused sp os (k : Int) = some true ∧ m_l_refused_by_base sp os = some true := by
 have h : m_least_schedule_x sp os 48 = some (.inl (k : Int)) := by
   unfold m_least_schedule_x
   exact bd (check_x hk hl h1 h2) rfl
 constructor
 · unfold m_l_refused
   exact bd h (tryLE (bd (x := true) (bd (x := true) rfl (ift rfl (congrArg some (decide_eq_true rfl)))) rfl))
 · unfold m_l_refused_by_base
   exact bd h rfl
theorem nothing_ok : m_l_nothing_holds = some true := by
 have h0 : m_least_schedule [] [] 48 = some (some [], []) := by
   unfold m_least_schedule
   refine bd (x := ()) rfl (bd (x := []) rfl (bd (x := []) ?_ (ltE (bd (x := .inr ([], [], false)) ?_ rfl))))
   · exact repL_one (0 : Int) (n := 0) (by decide)
   · have hb : m_least_schedule_b2 [] 48 [] (([] : List Int), ([] : List (Int × Int × Int)), true) = some (.inr ([], [], false)) := rfl
     show whileR m_least_schedule_c2 (m_least_schedule_b2 [] 48 []) (4998 + 1 + 1) ([], [], true) = _
     rw [wh_inr (c2_ok _ _ _) hb, wh_end (c2_ok _ _ _)]
 have h1 := (refuse63 (sp := []) (os := [[.inr (.inl wY), .inl 0, .inl 5]]) (k := 0) (by decide) (by decide) (fun j hj => absurd hj (by omega)) (fun o ho => by
   obtain rfl := Option.some.inj ho
   rw [is3 (n := 0) rfl rfl]; rfl)).1
 unfold m_l_nothing_holds
 refine bd h0 (bd (x := false) rfl (iff' rfl (bd (x := true) ?_ rfl)))
 exact ift rfl (ift rfl (bd h1 rfl))
theorem moved63 {h : List Int} (hh : Hd h) {n : Nat} {sch : List Int} (hs : Nums n 100 sch) (hn : n ≤ 12) : ∃ l h', forN m_law_b5 ([], h) sch = some (l, h') ∧ l.length = n ∧ (∀ x ∈ l, 0 ≤ x) ∧ Hd h' := by
 obtain ⟨⟨l, h2⟩, e3, q1, q2, q3⟩ := forN_ind (f := m_law_b5) (xs := sch) (s0 := ([], h)) (fun pre st => st.1.length = pre.length ∧ Hd st.2 ∧ ∀ x ∈ st.1, 0 ≤ x) ⟨rfl, hh, fun x h => nomatch h⟩ (fun pre x suf st hx hst => by
   obtain ⟨s1, s2⟩ := st
   obtain ⟨hq, hs2, hp⟩ := hst
   have hlen : pre.length ≤ 100 := by
     have := congrArg List.length hx
     rw [hs.1, List.length_append] at this
     omega
   have hl : s1.length = pre.length := hq
   obtain ⟨u, k1, f1, u0, u1, hk1⟩ := pick_ok hs2 (n := 5) (by decide) (by decide)
   refine ⟨(s1 ++ [max 0 (x + u - 2)], k1), bd f1 (bd (app_ok (xs := s1) (lt_big (by omega))) rfl), ?_, hk1, fun y hy => ?_⟩
   · show (s1 ++ [_]).length = _
     rw [List.length_append, List.length_append, hl]; rfl
   · rcases List.mem_append.mp (show y ∈ s1 ++ [max 0 (x + u - 2)] from hy) with z | z
     · exact hp y z
     · rw [List.mem_singleton.mp z]; omega)
 refine ⟨l, h2, e3, ?_, q3, q2⟩
 have : l.length = sch.length := q1
 rw [this, hs.1]
theorem highs_ok {n : Nat} {sp : List (Int × Int)} (hs : OkS n sp) : Lg n sp (sp.map (·.2)) :=
 ⟨by rw [List.length_map, hs.1], fun i i0 i1 => by
   have e : gt (sp.map (·.2)) i = hi sp i := by
     unfold gt hi
     rw [List.getElem?_map]
     cases sp[i.toNat]? <;> rfl
   rw [e]; exact ⟨(sp_le hs i).2.1, Int.le_refl _⟩⟩
theorem law_true (s : List Int) (hs : s.length ≤ 63) : m_law s = some true := by
 unfold m_law
 obtain ⟨h, e0, hh⟩ := hand_ok s 0 (by decide)
 obtain ⟨sp, h', n, e1, osp, n1, n2, _⟩ := sailings_ok hh
 obtain ⟨g, f0, hg⟩ := hand_ok s 1 (by decide)
 obtain ⟨sch, g', f1, osch, _⟩ := schedule_ok hg n2
 obtain ⟨m, m0, hm⟩ := hand_ok s 3 (by decide)
 obtain ⟨ps, m', e5, ops, lps⟩ := plains_ok hm osch osp n1 n2
 obtain ⟨k, k0, hk⟩ := hand_ok s 2 (by decide)
 obtain ⟨legs, k1, e2, lg⟩ := lgs_ok hk osp n2
 obtain ⟨q, q0, hq⟩ := hand_ok s 4 (by decide)
 obtain ⟨kind, qa, g1, u0, u1, hqa⟩ := pick_ok hq (n := 4) (by decide) (by decide)
 obtain ⟨mx, emx, hmx⟩ := lmax_le (H := sch) (c := 100) (by rw [osch.1]; exact n1) (fun x hx => (osch.2 x hx).2)
 have mx0 : 0 ≤ mx := by
   obtain ⟨_, mm, _⟩ := lMax_is emx
   exact (osch.2 mx mm).1
 obtain ⟨a, qb, g2, a0, a1, hqb⟩ := pick_ok hqa (n := 3) (by decide) (by decide)
 obtain ⟨b, qc, g3, b0, b1, hqc⟩ := pick_ok hqb (n := 31) (by decide) (by decide)
 obtain ⟨c, qd, g4, c0, c1, hqd⟩ := pick_ok hqc (n := 97) (by decide) (by decide)
 obtain ⟨last, g5, l0, l1, lk⟩ : ∃ last, at_ [(48 : Int), (min (96 : Int) (mx + a)), b, c] kind = some last ∧ 0 ≤ last ∧ last ≤ 96 ∧ (kind = 0 → last = 48) := by
   rcases (show kind = 0 ∨ kind = 1 ∨ kind = 2 ∨ kind = 3 by omega) with rfl | rfl | rfl | rfl
   · exact ⟨48, rfl, by decide, by decide, fun _ => rfl⟩
   · exact ⟨_, rfl, by omega, by omega, fun z => absurd z (by decide)⟩
   · exact ⟨_, rfl, by omega, by omega, fun z => absurd z (by decide)⟩
   · exact ⟨_, rfl, by omega, by omega, fun z => absurd z (by decide)⟩
 obtain ⟨mv, qe, g6, lmv, mv0, hqe⟩ := moved63 hqd osch n2
 obtain ⟨t, t0, ht⟩ := hand_ok s 5 (by decide)
 obtain ⟨pl, t1, g7, hpl, lpl, ht1⟩ := places_ok ht lps
 obtain ⟨os, t2, g8, los, hos⟩ := spoil_ok ht1 n2 (os := ps.map ordf) (fun o ho => by
   obtain ⟨p, hp, rfl⟩ := List.mem_map.mp ho
   exact sh_ord (ops p hp)) (pl := pl) (by rw [List.length_map]; exact hpl)
 rw [List.length_map] at los
 have f1' : m_l_schedule g (sp.length : Int) = some (sch, g') := by rw [osp.1]; exact f1
 have g7' : m_l_places t ((ps.map ordf).length : Int) = some (pl, t1) := by rw [List.length_map]; exact g7
 have g8' : m_l_spoil t1 (ps.map ordf) pl (sp.length : Int) = some (os, t2) := by rw [osp.1]; exact g8
 have e6 : forN m_law_b2 [] sp = some (sp.map (·.1)) := by
   rw [forN_flat (f := m_law_b2) (h := fun x => [x.1]) (fun _ => Nat.le_refl _) (le_big (by show 0 + sp.length ≤ 100000; rw [osp.1]; omega)) (fun acc x hx hb => bd (app_ok hb) rfl), List.nil_append, flat_sing]
 have e7 : forN m_law_b3 [] sp = some (sp.map (·.2)) := by
   rw [forN_flat (f := m_law_b3) (h := fun x => [x.2]) (fun _ => Nat.le_refl _) (le_big (by show 0 + sp.length ≤ 100000; rw [osp.1]; omega)) (fun acc x hx hb => bd (app_ok hb) rfl), List.nil_append, flat_sing]
 have e8 : forN m_law_b4 [] (sp.map (·.1)) = some ((sp.map (·.1)).map fun x => (x, x)) := by
   rw [forN_flat (f := m_law_b4) (h := fun x => [(x, x)]) (fun _ => Nat.le_refl _) (le_big (by show 0 + (sp.map (·.1)).length ≤ 100000; rw [List.length_map, osp.1]; omega)) (fun acc x hx hb => bd (app_ok hb) rfl), List.nil_append, flat_sing]
 have otight : OkS n ((sp.map (·.1)).map fun x => (x, x)) := ⟨by rw [List.length_map, List.length_map, osp.1], fun z hz => by
   obtain ⟨y, hy, rfl⟩ := List.mem_map.mp hz
   obtain ⟨x, hx, rfl⟩ := List.mem_map.mp hy
   obtain ⟨a, b, c⟩ := osp.2 x hx
   exact ⟨a, Int.le_refl _, by show x.1 ≤ 100; omega⟩⟩
 have ltight : Lg n ((sp.map (·.1)).map fun x => (x, x)) (sp.map (·.1)) := by
   have e : (((sp.map (·.1)).map fun x => (x, x)).map (·.1)) = sp.map (·.1) := by rw [List.map_map]; exact List.map_congr_left (fun _ _ => rfl) |>.trans (List.map_id _)
   have := lows_ok otight
   rw [e] at this
   exact this
 have hrows : ∀ l ∈ [legs, sp.map (·.1), sp.map (·.2)], Lg n sp l := fun l hl => by
   simp only [List.mem_cons, List.not_mem_nil, or_false] at hl
   rcases hl with rfl | rfl | rfl
   · exact lg
   · exact lows_ok osp
   · exact highs_ok osp
 have htr : ∀ l ∈ [sp.map (·.1)], Lg n ((sp.map (·.1)).map fun x => (x, x)) l := fun l hl => by
   rw [List.mem_singleton.mp hl]; exact ltight
 have ref : 0 < pl.length → ∃ x, lMin pl = some x ∧ m_l_refused sp os x = some true ∧ m_l_refused_by_base sp os = some true := fun c => by
   have hne : ∃ x, lMin pl = some x := by
     cases pl with
     | nil => exact absurd c (by decide)
     | cons a l => exact ⟨_, rfl⟩
   obtain ⟨x, ex⟩ := hne
   obtain ⟨x1, x2⟩ := lMin_is ex
   obtain ⟨x3, x4⟩ := hpl x x1
   have exn : ((x.toNat : Nat) : Int) = x := by omega
   have hx := refuse63 (sp := sp) (os := os) (k := x.toNat) (by rw [los]; omega) (by rw [los]; exact lps) (fun j hj o ho => by
     have hnot : (j : Int) ∉ pl := fun z => by have := x2 _ z; omega
     rw [(hos j).2 hnot, List.getElem?_map] at ho
     cases hg : ps[j]? with
     | none => rw [hg] at ho; cases ho
     | some p =>
       rw [hg] at ho
       obtain rfl := Option.some.inj ho
       exact good_ok (ops p (List.mem_of_getElem? hg)) osp.1) (fun o ho => (hos x.toNat).1 (by rw [exn]; exact x1) o ho sp osp.1)
   rw [exn] at hx
   exact ⟨x, ex, hx⟩
 have row : ∀ (sp' : List (Int × Int)) (rows : List (List Int)) (hd : List Int), OkS n sp' → (∀ l ∈ rows, Lg n sp' l) → Hd hd → ∃ hd', m_law_b6 (sp, h') (sch, g') (ps, m') (ps.map ordf) (kind, qa) last (mv, qe) (pl, t1) (os, t2) hd (sp', rows) = some (.inr hd') ∧ Hd hd' := fun sp' rows hd o' r' hh' => by
   obtain ⟨r, er, ar⟩ := toldl_ok (d := 0) ops o' n1 n2 l0 l1 lps lk
   obtain ⟨r1, L⟩ := r
   obtain ⟨hd', eh, hh2⟩ := rivals_ok ar hh' ops o' n1 n2 l1 lps osch.1 (fun x hx => (osch.2 x hx).1) lmv mv0
   refine ⟨hd', ?_, hh2⟩
   have hL : L.length ≤ 2000 := by
     rcases ar with ⟨_, fl⟩ | ⟨H, _, v, _⟩
     · exact fl.1
     · have h1 := v.sum l1 n2
       have h2 := v.cnt
       dsimp only at h2
       omega
   have hLb : L.length < big := lt_big (by omega)
   unfold m_law_b6
   refine bd (x := (Sum.inr () : Bool ⊕ Unit)) ?_ (orLi ?_)
   · by_cases c : 0 < pl.length
     · obtain ⟨x, ex, r1, r2⟩ := ref c
       exact ift (decide_eq_true (by show (0 : Int) < (pl.length : Int); omega)) (bd (x := false) (bd ex (bd r1 (iff' rfl (bd r2 rfl)))) (iff' rfl rfl))
     · exact iff' (decide_eq_false (by show ¬ (0 : Int) < (pl.length : Int); omega)) rfl
   · refine bd er (bd (x := (r1, L)) rfl (bd (answer63 ar ops o' n1 n2 l1 r') (iff' rfl (bd eh (iff' rfl (bd (guard_ok (decide_eq_true hLb)) (bd (x := ()) ?_ rfl)))))))
     rcases ar with ⟨e, _⟩ | ⟨H, e, v, _⟩
     · have e : r1 = none := e
       subst e
       exact iff' rfl rfl
     · have e : r1 = some H := e
       subst e
       exact ift rfl (bd (x := H) rfl (bd (app_ok (xs := H) (lt_big (by rw [v.len]; omega))) rfl))
 obtain ⟨d1, r1, hd1⟩ := row sp [legs, sp.map (·.1), sp.map (·.2)] qe osp hrows hqe
 obtain ⟨d2, r2, hd2⟩ := row _ [sp.map (·.1)] d1 otight htr hd1
 obtain ⟨d3, r3, hd3⟩ := row sp [legs, sp.map (·.1), sp.map (·.2)] d2 osp hrows hd2
 refine bd e0 (bd e1 (bd f0 (bd f1' (bd m0 (bd e5 (bd (orders_ok ps lps) (bd e6 (bd k0 (bd e2 (bd e7 (bd e8 (bd q0 (bd g1 (bd emx (bd g2 (bd g3 (bd g4 (bd g5 (bd g6 (bd t0 (bd g7' (bd g8' ?_))))))))))))))))))))))
 have hst := stay_ok ops lps
 refine bd (x := (Sum.inr d3 : Bool ⊕ List Int)) ?_ (orRi (bd (x := true) (bd hst (ift rfl (bd nothing_ok rfl))) rfl))
 rw [forR_step r1, forR_step r2, forR_step r3]; rfl
end Mi
namespace G
open PySem PySem.Spec PyProof.Rows L2
def lastF : List Str := ["joined", "fuel", "reach", "inside", "hops", "letters", "hours", "end", "keeps_clear", "fields"]
def done (fs : List (Str × V)) : Bool := fs.any fun p => lastF.any fun q => decide (q = p.1)
def Froz : HO → Prop
 | .tup _ => True
 | .ins _ _ fs => done fs = true
 | .own _ => True
 | .frz _ _ => True
 | _ => False
def NCf : HO → Prop
 | .own _ => False
 | .ext _ => False
 | .ins _ _ _ => False
 | .frz _ _ => False
 | _ => True
def NCo (H H' : Hp) (b : Addr) : HO → Prop
 | .own y => ∃ C fs, H' y = some (.ins C b fs)
 | .ins C dx _ => H dx = none ∨ ∃ fs', H b = some (.ins C dx fs')
 | .ext φ => ∀ (h : Heap) (ob : Obj), φ h → h.get? b = some ob → ∀ v, ob.data ≠ .cell v
 | .frz o u => NCf u ∨ ((∃ φ, u = .ext φ) ∧ ∀ v, o.data ≠ .cell v)
 | _ => True
structure Chg (M : List Addr) (H H' : Hp) : Prop where
 keep : ∀ b o, H b = some o → (b ∉ M ∨ Froz o) → H' b = some o
 dom : ∀ b, H' b = none → H b = none
 ins : ∀ a C dx fs, H a = some (.ins C dx fs) → ∃ fs', H' a = some (.ins C dx fs')
 new : ∀ b o, H' b = some o → H b = some o ∨ NCo H H' b o
theorem Chg.refl {M : List Addr} (H : Hp) : Chg M H H := ⟨fun _ _ h _ => h, fun _ h => h, fun _ _ _ fs h => ⟨fs, h⟩, fun _ _ h => .inl h⟩
theorem NCo.chg {H H1 H2 : Hp} {b : Addr} {o : HO} (n : NCo H H1 b o) (i : ∀ a C dx fs, H1 a = some (.ins C dx fs) → ∃ fs', H2 a = some (.ins C dx fs')) : NCo H H2 b o := by
 cases o with
 | own y => obtain ⟨C, fs, e⟩ := n; obtain ⟨fs', e'⟩ := i _ _ _ _ e; exact ⟨C, fs', e'⟩
 | _ => exact n
theorem new_trans {H H1 H2 : Hp} (ad : ∀ b, H1 b = none → H b = none) (ai : ∀ b o, H1 b = some o → H b = some o ∨ NCo H H1 b o) (bi : ∀ a C dx fs, H1 a = some (.ins C dx fs) → ∃ fs', H2 a = some (.ins C dx fs')) (bn : ∀ b o, H2 b = some o → H1 b = some o ∨ NCo H1 H2 b o) :
   ∀ b o, H2 b = some o → H b = some o ∨ NCo H H2 b o := fun b o h => by
 rcases bn b o h with e | n
 · exact (ai b o e).imp id fun n => n.chg bi
 · refine .inr ?_
   cases o with
   | ins C dx fs =>
     rcases n with n | ⟨fs', n⟩
     · exact .inl (ad _ n)
     · rcases ai _ _ n with e | m
       · exact .inr ⟨fs', e⟩
       · exact m
   | _ => exact n
theorem Chg.trans {M : List Addr} {H H1 H2 : Hp} (a : Chg M H H1) (b : Chg M H1 H2) : Chg M H H2 :=
 ⟨fun x o h d => b.keep x o (a.keep x o h d) d, fun x h => a.dom x (b.dom x h), fun x C dx fs h => by obtain ⟨fs', h'⟩ := a.ins x C dx fs h; exact b.ins x C dx fs' h', new_trans a.dom a.new b.ins b.new⟩
theorem Chg.mono {M N : List Addr} {H H' : Hp} (a : Chg M H H') (s : ∀ x ∈ M, x ∈ N) : Chg N H H' :=
 ⟨fun b o h d => a.keep b o h (d.imp (fun z y => z (s b y)) id), a.dom, a.ins, a.new⟩
theorem Chg.none {M : List Addr} {H H' : Hp} (a : Chg [] H H') : Chg M H H' := a.mono (fun x h => nomatch h)
theorem Chg.new' {M : List Addr} {H : Hp} {p : Addr} {o : HO} (np : H p = .none) (hn : NCo H (upd H p o) p o) : Chg M H (upd H p o) :=
 ⟨fun b u h _ => by rw [upd_ne (ne_of_none h np)]; exact h, fun b h => by
   by_cases e : b = p
   · subst e; exact np
   · rw [upd_ne e] at h; exact h, fun a C dx fs h => ⟨fs, by rw [upd_ne (ne_of_none h np)]; exact h⟩, fun b u h => by
   by_cases e : b = p
   · subst e; rw [upd_same] at h; cases h; exact .inr hn
   · rw [upd_ne e] at h; exact .inl h⟩
theorem Chg.lay {M : List Addr} {H : Hp} {p : Addr} {o : HO} (np : H p = .none) (hn : NCf o) : Chg M H (upd H p o) := Chg.new' np (by
 cases o <;> first | exact hn.elim | trivial)
theorem Chg.wr {H : Hp} {p : Addr} {o u : HO} (hp : H p = some u) (nf : ¬ Froz u) (hi : ∀ C dx fs, u = .ins C dx fs → ∃ fs', o = .ins C dx fs' := by intro _ _ _ z; cases z) (hn : NCo H (upd H p o) p o := by first | trivial | exact .inl trivial) : Chg [p] H (upd H p o) :=
 ⟨fun b w h d => by
   have e : b ≠ p := by
     intro e; subst e
     rw [hp] at h; cases h
     rcases d with d | d
     · exact d (List.mem_singleton.mpr rfl)
     · exact nf d
   rw [upd_ne e]; exact h, fun b h => by
   by_cases e : b = p
   · subst e; rw [upd_same] at h; cases h
   · rw [upd_ne e] at h; exact h, fun a C dx fs h => by
   by_cases e : a = p
   · subst e
     rw [hp] at h; cases h
     obtain ⟨fs', rfl⟩ := hi _ _ _ rfl
     exact ⟨fs', upd_same⟩
   · exact ⟨fs, by rw [upd_ne e]; exact h⟩, fun b w h => by
   by_cases e : b = p
   · subst e; rw [upd_same] at h; cases h; exact .inr hn
   · rw [upd_ne e] at h; exact .inl h⟩
theorem Chg.join {M N : List Addr} {H0 H H' : Hp} (a : Chg M H0 H) (b : Chg N H H') (fr : ∀ x ∈ N, x ∈ M ∨ H0 x = .none) : Chg M H0 H' :=
 ⟨fun x o h d => b.keep x o (a.keep x o h d) (by
   rcases d with d | d
   · refine .inl (fun z => ?_)
     rcases fr x z with y | y
     · exact d y
     · rw [y] at h; cases h
   · exact .inr d), fun x h => a.dom x (b.dom x h), fun x C dx fs h => by obtain ⟨fs', h'⟩ := a.ins x C dx fs h; exact b.ins x C dx fs' h', new_trans a.dom a.new b.ins b.new⟩
theorem Chg.free {M : List Addr} {H H' : Hp} (a : Chg M H H') {p : Addr} (np : H' p = .none) : H p = .none := a.dom p np
structure Ty (α : Type) where
 rep : PySem.W.Frag → Hp → List Addr → V → α → Prop
 keep : ∀ {K : PySem.W.Frag} {H H' : Hp} {F : List Addr} {v : V} {d : α}, rep K H F v d → (∀ b o, H b = some o → (b ∈ F ∨ Froz o) → H' b = some o) → rep K H' F v d
 dom : ∀ {K : PySem.W.Frag} {H : Hp} {F : List Addr} {v : V} {d : α}, rep K H F v d → ∀ b ∈ F, ∃ o, H b = some o ∧ ¬ Froz o
def Dj (F G : List Addr) : Prop := ∀ a ∈ F, a ∉ G
theorem Dj.symm {F G : List Addr} (d : Dj F G) : Dj G F := fun a h z => d a z h
theorem Dj.nil {F : List Addr} : Dj [] F := fun a h => nomatch h
theorem Dj.nilR {F : List Addr} : Dj F [] := fun a h z => nomatch z
section
variable {α β : Type} {τ : Ty α} {υ : Ty β} {K : PySem.W.Frag} {H H' : Hp} {F G M : List Addr} {v u : V} {d : α} {p : Addr}
theorem Ty.chg (r : τ.rep K H F v d) (c : Chg M H H') (dj : Dj F M) : τ.rep K H' F v d :=
 τ.keep r fun b o h z => c.keep b o h (z.imp (fun y => dj b y) id)
theorem Ty.ex (r : τ.rep K H F v d) (c : Chg [] H H') : τ.rep K H' F v d := Ty.chg r c Dj.nilR
theorem Ty.fz (r : τ.rep K H [] v d) (c : Chg M H H') : τ.rep K H' [] v d := Ty.chg r c Dj.nil
theorem Ty.nin (r : τ.rep K H F v d) (np : H p = none) : Dj F [p] := fun a h z => by
 rw [List.mem_singleton] at z; subst z
 obtain ⟨o, e, _⟩ := τ.dom r a h
 rw [np] at e; cases e
theorem Ty.fresh (r : τ.rep K H F v d) (np : ∀ a ∈ G, H a = none) : Dj F G := fun a h z => by
 obtain ⟨o, e, _⟩ := τ.dom r a h
 rw [np a z] at e; cases e
end
theorem one_fresh {H : Hp} {p : Addr} (np : H p = none) : ∀ a ∈ [p], H a = none := fun a h => by
 rw [List.mem_singleton] at h; subst h; exact np
def yInt : Ty Int := ⟨fun _ _ F v d => F = [] ∧ v = .int d, fun h _ => h, fun h b m => by rw [h.1] at m; cases m⟩
def yBool : Ty Bool := ⟨fun _ _ F v d => F = [] ∧ v = .bl d, fun h _ => h, fun h b m => by rw [h.1] at m; cases m⟩
def toS (l : List Nat) : Str := ⟨l.toArray⟩
def yStr : Ty (List Nat) := ⟨fun _ _ F v d => F = [] ∧ v = .str (toS d), fun h _ => h, fun h b m => by rw [h.1] at m; cases m⟩
theorem yInt_i {K : PySem.W.Frag} {H : Hp} {i : Int} : yInt.rep K H [] (.int i) i := ⟨rfl, rfl⟩
theorem yStr_i {K : PySem.W.Frag} {H : Hp} {i : List Nat} : yStr.rep K H [] (.str (toS i)) i := ⟨rfl, rfl⟩
def yOpt {α : Type} (τ : Ty α) : Ty (Option α) where
 rep K H F v d := match d with
   | none => F = [] ∧ v = .non
   | some x => v ≠ .non ∧ τ.rep K H F v x
 keep {K H H' F v d} h k := by
   cases d with
   | none => exact h
   | some x => exact ⟨h.1, τ.keep h.2 k⟩
 dom {K H F v d} h b m := by
   cases d with
   | none => rw [h.1] at m; cases m
   | some x => exact τ.dom h.2 b m
def yLst {α : Type} (τ : Ty α) : Ty (List α) where
 rep K H F v xs := ∃ a vs, v = .ref a ∧ F = [a] ∧ H a = some (.lst vs) ∧ Paired (fun u x => τ.rep K H [] u x) vs xs
 keep {K H H' F v xs} h k := by
   obtain ⟨a, vs, e, f, g, r⟩ := h
   subst f
   exact ⟨a, vs, e, rfl, k a _ g (.inl (List.mem_singleton.mpr rfl)), Paired.mapP r fun u x q => τ.keep q fun b o hb z => k b o hb (z.elim (fun y => nomatch y) .inr)⟩
 dom {K H F v xs} h b m := by
   obtain ⟨a, vs, e, f, g, r⟩ := h
   subst f
   rw [List.mem_singleton] at m; subst m
   exact ⟨_, g, fun z => z⟩
theorem SqT.keeps {K : PySem.W.Frag} {H H' : Hp} {a : Addr} {vs : List V} (s : SqT K H a vs) (k : ∀ b o, H b = some o → Froz o → H' b = some o) : SqT K H' a vs := by
 rcases s with (s | ⟨o, s⟩) | s
 · exact .inl (.inl (k _ _ s trivial))
 · exact .inl (.inr ⟨o, k _ _ s trivial⟩)
 · exact .inr s
structure Tys (α : Type) where
 rep : PySem.W.Frag → Hp → List Addr → List V → α → Prop
 keep : ∀ {K : PySem.W.Frag} {H H' : Hp} {F : List Addr} {v : List V} {d : α}, rep K H F v d → (∀ b o, H b = some o → (b ∈ F ∨ Froz o) → H' b = some o) → rep K H' F v d
 dom : ∀ {K : PySem.W.Frag} {H : Hp} {F : List Addr} {v : List V} {d : α}, rep K H F v d → ∀ b ∈ F, ∃ o, H b = some o ∧ ¬ Froz o
def sOne {α : Type} (τ : Ty α) : Tys α where
 rep K H F vs x := ∃ v, vs = [v] ∧ τ.rep K H F v x
 keep h k := by obtain ⟨v, e, r⟩ := h; exact ⟨v, e, τ.keep r k⟩
 dom h b m := by obtain ⟨v, e, r⟩ := h; exact τ.dom r b m
def sCons {α β : Type} (τ : Ty α) (ts : Tys β) : Tys (α × β) where
 rep K H F vs x := ∃ v ws F1 F2, vs = v :: ws ∧ F = F1 ++ F2 ∧ τ.rep K H F1 v x.1 ∧ ts.rep K H F2 ws x.2
 keep {K H H' F v d} h k := by
   obtain ⟨v, ws, F1, F2, e, f, r, q⟩ := h
   subst f
   exact ⟨v, ws, F1, F2, e, rfl, τ.keep r fun b o hb z => k b o hb (z.imp (fun y => List.mem_append_left _ y) id), ts.keep q fun b o hb z => k b o hb (z.imp (fun y => List.mem_append_right _ y) id)⟩
 dom {K H F v d} h b m := by
   obtain ⟨v, ws, F1, F2, e, f, r, q⟩ := h
   subst f
   rcases List.mem_append.mp m with m | m
   · exact τ.dom r b m
   · exact ts.dom q b m
def yTup {α : Type} (ts : Tys α) : Ty α where
 rep K H F v d := ∃ a vs, v = .ref a ∧ SqT K H a vs ∧ ts.rep K H F vs d
 keep h k := by
   obtain ⟨a, vs, e, s, r⟩ := h
   exact ⟨a, vs, e, SqT.keeps s fun b o hb z => k b o hb (.inr z), ts.keep r k⟩
 dom h b m := by obtain ⟨a, vs, e, s, r⟩ := h; exact ts.dom r b m
def yTupL {α : Type} (τ : Ty α) : Ty (List α) where
 rep K H F v xs := ∃ a vs, v = .ref a ∧ F = [] ∧ SqT K H a vs ∧ Paired (fun u x => τ.rep K H [] u x) vs xs
 keep {K H H' F v xs} h k := by
   obtain ⟨a, vs, e, f, g, r⟩ := h
   exact ⟨a, vs, e, f, SqT.keeps g fun b o hb z => k b o hb (.inr z), Paired.mapP r fun u x q => τ.keep q fun b o hb z => k b o hb (z.elim (fun y => nomatch y) .inr)⟩
 dom {K H F v xs} h b m := by
   obtain ⟨a, vs, e, f, g, r⟩ := h
   rw [f] at m; cases m
def yScr : Ty (List Int) where
 rep K H F v xs := F = [] ∧ ∃ a, v = .ref a ∧ ∀ H', (∀ b o, H b = some o → Froz o → H' b = some o) → SqL K H' a (xs.map V.int)
 keep {K H H' F v xs} h k := by
   obtain ⟨f, a, e, g⟩ := h
   exact ⟨f, a, e, fun H2 k2 => g H2 fun b o hb z => k2 b o (k b o hb (.inr z)) z⟩
 dom {K H F v xs} h b m := by
   rw [h.1] at m; cases m
theorem yScr_of {K : PySem.W.Frag} {H : Hp} {a : Addr} {ns : List Int} (o : Only H) (s : SqL K H a (ns.map V.int)) : yScr.rep K H [] (.ref a) ns := by
 refine ⟨rfl, a, rfl, fun H' k => ?_⟩
 rcases s with (s | ⟨ob, s⟩) | s
 · rcases o a with z | ⟨_, _, z⟩
   · rw [z] at s; cases s
   · rw [z] at s; cases s
 · exact .inl (.inr ⟨ob, k _ _ s trivial⟩)
 · exact .inr s
end G
namespace G
open PySem PySem.Spec PyProof.Rows L2
theorem at_eq {α : Type} (xs : List α) (i : Int) : L2.atI xs i = Mi.at_ xs i := rfl
theorem line_big : Mi.big ≤ sizeLine := by rw [sizeLine_eq]; decide
section paired
variable {α β γ : Type} {R : α → β → Prop}
theorem pr_len {xs : List α} {ys : List β} (r : Paired R xs ys) : xs.length = ys.length := Paired.length r
theorem pr_get : ∀ {xs : List α} {ys : List β} {j : Nat} {y : β}, Paired R xs ys → ys[j]? = some y → ∃ x, xs[j]? = some x ∧ R x y
 | _, _, _, _, .nil, e => by simp at e
 | _, _, 0, _, .cons r _, e => by simp at e; subst e; exact ⟨_, rfl, r⟩
 | _, _, j + 1, y, .cons _ t, e => by
   obtain ⟨u, h1, h2⟩ := pr_get (j := j) (y := y) t (by simpa using e)
   exact ⟨u, by simpa using h1, h2⟩
theorem pr_set {x : α} {y : β} (r : R x y) : ∀ {xs : List α} {ys : List β} (i : Nat), Paired R xs ys → Paired R (xs.set i x) (ys.set i y)
 | _, _, _, .nil => .nil
 | _, _, 0, .cons _ t => .cons r t
 | _, _, i + 1, .cons q t => .cons q (pr_set r i t)
theorem pr_app : ∀ {xs zs : List α} {ys ws : List β}, Paired R xs ys → Paired R zs ws → Paired R (xs ++ zs) (ys ++ ws)
 | _, _, _, _, .nil, s => s
 | _, _, _, _, .cons r t, s => .cons r (pr_app t s)
theorem pr_take : ∀ {xs : List α} {ys : List β} (n : Nat), Paired R xs ys → Paired R (xs.take n) (ys.take n)
 | _, _, 0, _ => .nil
 | _, _, _ + 1, .nil => .nil
 | _, _, n + 1, .cons r t => .cons r (pr_take n t)
theorem pr_drop : ∀ {xs : List α} {ys : List β} (n : Nat), Paired R xs ys → Paired R (xs.drop n) (ys.drop n)
 | _, _, 0, r => r
 | _, _, _ + 1, .nil => .nil
 | _, _, n + 1, .cons _ t => pr_drop n t
theorem pr_at {xs : List α} {ys : List β} {i : Int} {y : β} (r : Paired R xs ys) (h : Mi.at_ ys i = some y) : ∃ x, L2.atI xs i = some x ∧ R x y := by
 rw [at_eq]
 unfold Mi.at_ at h ⊢
 rw [pr_len r]
 obtain ⟨j, e, h⟩ := Mi.bnd h
 obtain ⟨x, e2, q⟩ := pr_get r h
 exact ⟨x, by rw [e]; exact e2, q⟩
theorem pr_map (f : β → α) (h : ∀ b, R (f b) b) : ∀ ys : List β, Paired R (ys.map f) ys
 | [] => .nil
 | y :: ys => .cons (h y) (pr_map f h ys)
theorem pr_of_map (f : β → α) (h : ∀ a b, R a b → a = f b) : ∀ {xs : List α} {ys : List β}, Paired R xs ys → xs = ys.map f
 | _, _, .nil => rfl
 | _, _, .cons r t => by rw [h _ _ r, pr_of_map f h t]; rfl
end paired
theorem ints_of {K : PySem.W.Frag} {H : Hp} {vs : List V} {ns : List Int} (r : Paired (fun u x => yInt.rep K H [] u x) vs ns) : vs = ns.map V.int := pr_of_map V.int (fun _ _ q => q.2) r
theorem ints_mk {K : PySem.W.Frag} {H : Hp} (ns : List Int) : Paired (fun u x => yInt.rep K H [] u x) (ns.map V.int) ns := pr_map V.int (fun _ => ⟨rfl, rfl⟩) ns
section vals
variable {K : PySem.W.Frag} {σ : L2.St} {H : Hp} {F : List Addr} {ta tb te : TE} {v u x y : V} {i j : Int} {t : TT} {b c : Bool} {α β : Type} {τ : Ty α}
theorem val_I0 {g : Int → Int → V} (ha : Val ta σ H (.int i)) (hb : Val tb σ H (.int j)) : Val (tOp (rI0 g) ta tb) σ H (g i j) := val_op ha hb fun Q q => ⟨i, j, rfl, rfl, q⟩
theorem val_I {C : Int → Int → Prop} {g : Int → Int → V} (ha : Val ta σ H (.int i)) (hb : Val tb σ H (.int j)) (hc : C i j) : Val (tOp (rI C g) ta tb) σ H (g i j) := val_op ha hb fun Q q => ⟨i, j, rfl, rfl, hc, q⟩
theorem val_U {g : Int → V} (ha : Val ta σ H (.int i)) : Val (tUn (rU g) ta) σ H (g i) := fun Q q => ha _ ⟨i, rfl, q⟩
theorem dI {i j : Int} : decide (V.int i = V.int j) = decide (i = j) := by
 by_cases e : i = j
 · subst e; simp
 · rw [decide_eq_false e, decide_eq_false (fun q => e (V.int.inj q))]
theorem val_eqI (ha : Val ta σ H (.int i)) (hb : Val tb σ H (.int j)) : Val (tOp rEq ta tb) σ H (.bl (decide (i = j))) := val_op ha hb fun Q q => ⟨rfl, by rw [dI]; exact q⟩
theorem val_neI (ha : Val ta σ H (.int i)) (hb : Val tb σ H (.int j)) : Val (tOp rNe ta tb) σ H (.bl (!decide (i = j))) := val_op ha hb fun Q q => ⟨rfl, by rw [dI]; exact q⟩
theorem val_is {w : V} (h : Val te σ H v) (e : v = w) : Val te σ H w := e ▸ h
theorem mulC {i j r : Int} (h : Mi.mul i j = some r) : CMul i j ∧ i * j = r := by
 unfold Mi.mul at h
 split at h
 · exact ⟨by assumption, Option.some.inj h⟩
 · cases h
theorem modC {i j r : Int} (h : Mi.mod i j = some r) : 0 < j ∧ i % j = r := by
 unfold Mi.mod at h
 split at h
 · exact ⟨by assumption, Option.some.inj h⟩
 · cases h
theorem divC {i j r : Int} (h : Mi.fdiv i j = some r) : CDivW i j ∧ i / j = r := by
 unfold Mi.fdiv at h
 split at h
 · rename_i hc
   refine ⟨wide_div (b := 200) hc.1 ?_ (by decide) (by decide), Option.some.inj h⟩
   omega
 · cases h
theorem val_mul {r : Int} (ha : Val ta σ H (.int i)) (hb : Val tb σ H (.int j)) (h : Mi.mul i j = some r) : Val (tOp (rI CMul fun i j => .int (i * j)) ta tb) σ H (.int r) := val_is (val_I ha hb (mulC h).1) (by rw [(mulC h).2])
theorem val_mod {r : Int} (ha : Val ta σ H (.int i)) (hb : Val tb σ H (.int j)) (h : Mi.mod i j = some r) : Val (tOp (rI (fun _ j => 0 < j) fun i j => .int (i % j)) ta tb) σ H (.int r) := val_is (val_I ha hb (modC h).1) (by rw [(modC h).2])
theorem val_fdiv {r : Int} (ha : Val ta σ H (.int i)) (hb : Val tb σ H (.int j)) (h : Mi.fdiv i j = some r) : Val (tOp (rI CDivW fun i j => .int (i / j)) ta tb) σ H (.int r) := val_is (val_I ha hb (divC h).1) (by rw [(divC h).2])
theorem ans_t (h : Val te σ H (.bl b)) : Ans (tTest te) σ H b := fun Q q => h _ ⟨b, rfl, q⟩
def rInt1 : List V → Hp → VK → Prop := fun xs H Q => (∃ i, xs = [.int i] ∧ Q (.int i) H) ∨ ∃ k, xs = [.bl k] ∧ Q (.int (if k then 1 else 0)) H
theorem cl_int {X : Cx} : CallR X (.type "int") rInt1 := call_int1
theorem val_int (ha : Val ta σ H (.int i)) : Val (tCB rInt1 (tCons ta tNil)) σ H (.int i) := fun Q q => ha _ (.inl ⟨i, rfl, q⟩)
def rMax2 : List V → Hp → VK → Prop := fun xs H Q => ∃ i j, xs = [.int i, .int j] ∧ Q (.int (if j > i then j else i)) H
def rMin2 : List V → Hp → VK → Prop := fun xs H Q => ∃ i j, xs = [.int i, .int j] ∧ Q (.int (if j < i then j else i)) H
theorem cl_max2 {X : Cx} (hc : X.calm = true) : CallR X (.builtin "max") rMax2 := call_max2 hc
theorem cl_min2 {X : Cx} (hc : X.calm = true) : CallR X (.builtin "min") rMin2 := call_min2 hc
theorem val_max2 (ha : Val ta σ H (.int i)) (hb : Val tb σ H (.int j)) : Val (tCB rMax2 (tCons ta (tCons tb tNil))) σ H (.int (max i j)) := fun Q q => ha _ (hb _ ⟨i, j, rfl, by
 have e : (if j > i then j else i) = max i j := by split <;> omega
 rw [e]; exact q⟩)
theorem val_min2 (ha : Val ta σ H (.int i)) (hb : Val tb σ H (.int j)) : Val (tCB rMin2 (tCons ta (tCons tb tNil))) σ H (.int (min i j)) := fun Q q => ha _ (hb _ ⟨i, j, rfl, by
 have e : (if j < i then j else i) = min i j := by split <;> omega
 rw [e]; exact q⟩)
def rLenQ (K : PySem.W.Frag) : List V → Hp → VK → Prop := fun xs H Q => ∃ p ys, xs = [.ref p] ∧ (SqL K H p ys ∨ SqT K H p ys) ∧ Q (.int ys.length) H
theorem cl_len {X : Cx} {K : PySem.W.Frag} (e : X.K = K := by rfl) : CallR X (.builtin "len") (rLenQ K) := by subst e; exact call_len_seq
theorem lst_sq {xs : List α} (r : (yLst τ).rep K H F v xs) : ∃ a vs, v = .ref a ∧ SqL K H a vs ∧ Paired (fun u x => τ.rep K H [] u x) vs xs := by
 obtain ⟨a, vs, e, f, g, q⟩ := r
 exact ⟨a, vs, e, .inl (.inl g), q⟩
theorem tupl_sq {xs : List α} (r : (yTupL τ).rep K H F v xs) : ∃ a vs, v = .ref a ∧ SqT K H a vs ∧ Paired (fun u x => τ.rep K H [] u x) vs xs := by
 obtain ⟨a, vs, e, f, g, q⟩ := r
 exact ⟨a, vs, e, g, q⟩
theorem scr_sq {xs : List Int} (r : yScr.rep K H F v xs) : ∃ a vs, v = .ref a ∧ SqL K H a vs ∧ Paired (fun u x => yInt.rep K H [] u x) vs xs := by
 obtain ⟨f, a, e, g⟩ := r
 exact ⟨a, _, e, g H fun _ _ h _ => h, ints_mk xs⟩
theorem val_lenL {xs : List α} (r : (yLst τ).rep K H F v xs) (ha : Val ta σ H v) : Val (tCB (rLenQ K) (tCons ta tNil)) σ H (.int (xs.length : Int)) := by
 obtain ⟨a, vs, e, s, q⟩ := lst_sq r
 subst e
 exact fun Q k => ha _ ⟨a, vs, rfl, .inl s, by rw [pr_len q]; exact k⟩
theorem val_lenT {xs : List α} (r : (yTupL τ).rep K H F v xs) (ha : Val ta σ H v) : Val (tCB (rLenQ K) (tCons ta tNil)) σ H (.int (xs.length : Int)) := by
 obtain ⟨a, vs, e, s, q⟩ := tupl_sq r
 subst e
 exact fun Q k => ha _ ⟨a, vs, rfl, .inr s, by rw [pr_len q]; exact k⟩
theorem val_lenS {xs : List Int} (r : yScr.rep K H F v xs) (ha : Val ta σ H v) : Val (tCB (rLenQ K) (tCons ta tNil)) σ H (.int (xs.length : Int)) := by
 obtain ⟨a, vs, e, s, q⟩ := scr_sq r
 subst e
 exact fun Q k => ha _ ⟨a, vs, rfl, .inl s, by rw [pr_len q]; exact k⟩
theorem ix_l {X : Cx} {K : PySem.W.Frag} (e : X.K = K := by rfl) : IxR X (rIxL K) := by subst e; exact ix_list
theorem ix_t {X : Cx} {K : PySem.W.Frag} (e : X.K = K := by rfl) : IxR X (rIxT K) := by subst e; exact ix_tup
theorem itm_L {xs : List α} {x : α} (r : (yLst τ).rep K H F v xs) (h : Mi.at_ xs i = some x) :
   ∃ u, τ.rep K H [] u x ∧ ∀ {σ : L2.St} {ta tb : TE}, Val ta σ H v → Val tb σ H (.int i) → Val (tOp (rIxL K) ta tb) σ H u := by
 obtain ⟨a, vs, e, s, q⟩ := lst_sq r
 subst e
 obtain ⟨u, e, ru⟩ := pr_at q h
 exact ⟨u, ru, fun ha hb => val_op ha hb fun Q k => ⟨a, vs, i, u, rfl, rfl, s, e, k⟩⟩
theorem itm_T {xs : List α} {x : α} (r : (yTupL τ).rep K H F v xs) (h : Mi.at_ xs i = some x) :
   ∃ u, τ.rep K H [] u x ∧ ∀ {σ : L2.St} {ta tb : TE}, Val ta σ H v → Val tb σ H (.int i) → Val (tOp (rIxT K) ta tb) σ H u := by
 obtain ⟨a, vs, e, s, q⟩ := tupl_sq r
 subst e
 obtain ⟨u, e, ru⟩ := pr_at q h
 exact ⟨u, ru, fun ha hb => val_op ha hb fun Q k => ⟨a, vs, i, u, rfl, rfl, s, e, k⟩⟩
theorem itm_S {xs : List Int} {x : Int} (r : yScr.rep K H F v xs) (h : Mi.at_ xs i = some x) {σ : L2.St} {ta tb : TE} (ha : Val ta σ H v) (hb : Val tb σ H (.int i)) : Val (tOp (rIxL K) ta tb) σ H (.int x) := by
 obtain ⟨a, vs, e, s, q⟩ := scr_sq r
 subst e
 obtain ⟨u, e, ru⟩ := pr_at q h
 obtain ⟨_, rfl⟩ := ru
 exact val_op ha hb fun Q k => ⟨a, vs, i, _, rfl, rfl, s, e, k⟩
theorem itm_LI {xs : List Int} {x : Int} (r : (yLst yInt).rep K H F v xs) (h : Mi.at_ xs i = some x) {σ : L2.St} {ta tb : TE} (ha : Val ta σ H v) (hb : Val tb σ H (.int i)) : Val (tOp (rIxL K) ta tb) σ H (.int x) := by
 obtain ⟨u, ⟨_, rfl⟩, k⟩ := itm_L r h
 exact k ha hb
theorem itm_TI {xs : List Int} {x : Int} (r : (yTupL yInt).rep K H F v xs) (h : Mi.at_ xs i = some x) {σ : L2.St} {ta tb : TE} (ha : Val ta σ H v) (hb : Val tb σ H (.int i)) : Val (tOp (rIxT K) ta tb) σ H (.int x) := by
 obtain ⟨u, ⟨_, rfl⟩, k⟩ := itm_T r h
 exact k ha hb
theorem cl_isi {X : Cx} {K : PySem.W.Frag} (e : X.K = K := by rfl) : CallR X (.builtin "isinstance") (rIsi K) := by subst e; exact call_isi
theorem val_isi {n m : String} {b : Bool} (ha : Val ta σ H v) (ht : TyX K H v (.type n)) (h : kitB n m = some b) : Val (tCB (rIsi K) (tCons ta (tCons (tC (.ty m)) tNil))) σ H (.bl b) := fun Q q =>
 ha _ ⟨v, .ty m, .type n, .type m, b, rfl, .ty m, ht, kit_ty h, q⟩
theorem ty_int : TyX K H (.int i) (.type "int") := .base (.int i)
theorem ty_non : TyX K H .non (.type "NoneType") := .base .non
theorem ty_lst {xs : List α} (r : (yLst τ).rep K H F v xs) : TyX K H v (.type "list") := by
 obtain ⟨a, vs, rfl, f, g, q⟩ := r
 exact .base (.lst g)
theorem ty_sqt {a : Addr} {vs : List V} (s : SqT K H a vs) : TyX K H (.ref a) (.type "tuple") := by
 rcases s with (s | ⟨o, s⟩) | ⟨o, its, n, e, c, _⟩
 · exact .base (.tup s)
 · exact .fTuple s
 · exact .kTuple e c
theorem ty_tup {ts : Tys α} {d : α} (r : (yTup ts).rep K H F v d) : TyX K H v (.type "tuple") := by
 obtain ⟨a, vs, rfl, s, q⟩ := r
 exact ty_sqt s
end vals
section cps
variable {K : PySem.W.Frag} {σ σ' : L2.St} {H : Hp} {F : List Addr} {ta tb te : TE} {v u x y : V} {i j : Int} {t : TT} {b c : Bool} {α β : Type} {τ : Ty α} {Q : VK} {D : Ends} {t1 t2 : TS}
theorem c_val (h : Val te σ H v) (k : Q v H) : te σ H Q := h Q k
theorem c_ans {Q : Bool → Hp → Prop} (h : Ans t σ H b) (k : Q b H) : t σ H Q := h Q k
theorem c_if {A B : Prop} (h1 : b = true → A) (h2 : b = false → B) : if b = true then A else B := by
 cases b with
 | true => exact iteT (h1 rfl)
 | false => exact iteF (h2 rfl)
theorem s_if (h : Ans t σ H b) (h1 : b = true → t1 D σ H) (h2 : b = false → t2 D σ H) : tIfS t t1 t2 D σ H := h _ (c_if h1 h2)
theorem s_join {R : L2.St → Hp → Prop} (w : ∀ nx : L2.St → Hp → Prop, (∀ σ' H', R σ' H' → nx σ' H') → t1 { D with nx := nx } σ H) (k : ∀ σ' H', R σ' H' → t2 D σ' H') : tSeq t1 t2 D σ H := w _ k
theorem g_name {i : Nat} {Q : L2.St → Hp → Prop} (e : σ.set i (some v) = σ') (k : Q σ' H) : gName i v σ H Q := by show Q (σ.set i (some v)) H; rw [e]; exact k
theorem sz {n : Nat} (h : n ≤ Mi.big) : n ≤ sizeLine := Nat.le_trans h line_big
def VaA (t : TA) (σ : L2.St) (H : Hp) (vs : List V) : Prop := ∀ Q : List V → Hp → Prop, Q vs H → t σ H Q
theorem va_nil : VaA tNil σ H [] := fun Q q => q
theorem va_cons {tr : TA} {vs : List V} (h : Val ta σ H v) (r : VaA tr σ H vs) : VaA (tCons ta tr) σ H (v :: vs) := fun Q q => h _ (r _ q)
theorem m_app {xs ys : List α} {d : α} (r : (yLst τ).rep K H F v xs) (ru : τ.rep K H [] u d) (hm : Mi.app xs d = some ys) (k : ∀ H', Chg F H H' → (yLst τ).rep K H' F v ys → Q .non H') : rAppend v [u] H Q := by
 obtain ⟨p, vs, rfl, rfl, g, q⟩ := r
 unfold Mi.app at hm
 split at hm
 · rename_i hz
   cases hm
   have c : Chg [p] H (upd H p (.lst (vs ++ [u]))) := Chg.wr g (fun z => z)
   refine ⟨p, vs, u, rfl, rfl, g, Nat.lt_of_lt_of_le (by rw [pr_len q]; exact hz) line_big, k _ c ⟨p, _, rfl, rfl, upd_same, ?_⟩⟩
   exact pr_app (Paired.mapP q fun _ _ z => Ty.fz z c) (.cons (Ty.fz ru c) .nil)
 · cases hm
theorem m_set {xs ys : List α} {d : α} {Q : Hp → Prop} (r : (yLst τ).rep K H F v xs) (ru : τ.rep K H [] u d) (hm : Mi.setAt xs i d = some ys) (k : ∀ H', Chg F H H' → (yLst τ).rep K H' F v ys → Q H') : rSetL v (.int i) u H Q := by
 obtain ⟨p, vs, rfl, rfl, g, q⟩ := r
 unfold Mi.setAt at hm
 obtain ⟨j, e, hm⟩ := Mi.bnd hm
 cases hm
 have c : Chg [p] H (upd H p (.lst (vs.set j u))) := Chg.wr g (fun z => z)
 refine ⟨p, vs, i, j, rfl, rfl, g, by rw [pr_len q]; exact e, k _ c ⟨p, _, rfl, rfl, upd_same, ?_⟩⟩
 exact pr_set (Ty.fz ru c) j (Paired.mapP q fun _ _ z => Ty.fz z c)
end cps
end G
namespace G
open PySem PySem.Spec PyProof.Rows L2
structure Bi (mg : Str → Option Value) : Prop where
 len : mg "len" = none
 range : mg "range" = none
 int : mg "int" = none
 bool : mg "bool" = none
 isinstance : mg "isinstance" = none
 max : mg "max" = none
 min : mg "min" = none
 list : mg "list" = none
 tuple : mg "tuple" = none
 sorted : mg "sorted" = none
 set : mg "set" = none
 enumerate : mg "enumerate" = none
 zip : mg "zip" = none
 reversed : mg "reversed" = none
 sum : mg "sum" = none
 any : mg "any" = none
 all : mg "all" = none
 str : mg "str" = none
structure Dfn (K : PySem.W.Frag) (mg : Str → Option Value) (x : Str) (st : Stmt) : Prop where
 ex : ∃ f fd, Fun K x x st f fd ∧ mg x = some (.ref f)
structure Cal (P : Program) (w : World) (K : PySem.W.Frag) (mg : Str → Option Value) (x : Str) (ps : List Str) (k : Nat) (sp : Sp) : Prop where
 ex : ∃ f fd, mg x = some (.ref f) ∧ PySem.W.keepIn K (.ref f) = true ∧ (∀ (s : Shared) (us : List Value), us.length = ps.length → BindsTo s fd ⟨us, []⟩ (ps.zip us)) ∧ ∀ base : Heap, FnOk P w K mg base CX0 k f fd ps sp
theorem pe_cc {X : Cx} {x : Str} {ps : List Str} {j k : Nat} {sp : Sp} {p pos : Pos} {e : Expr} {es : List Expr} {t : TA} (C : Cal X.prog X.w X.K X.mg x ps j sp) (hr : Room k X.A) (ha : PA X (e :: es) t) (hj : j ≤ k := by decide) (hg : Gl X x := by rfl)
   (hd : (x == ("__debug__" : Str)) = false := by decide) (he : starEach (e :: es) X.env = (false, eval e X.env) :: starEach es X.env := by rfl)
   (hpl : (backTo pos (starEach es X.env)).any (·.1) = false := by rfl) :
   PE X (.Call (.Name x p) (e :: es) [] pos) (tCall sp [] E0 t) := by
 obtain ⟨f, fd, g, kp, b, F⟩ := C.ex
 exact pe_call (F X.base) (hr.mono hj) hg g kp (fun s us _ hl => by rw [List.append_nil] at hl ⊢; exact b s us hl) .nil pass0 ha hd he hpl
theorem bindsF {K : PySem.W.Frag} {x qual : Str} {st : Stmt} {f : Addr} {fd : FuncData} {ps : List Str} (F : Fun K x qual st f fd)
   (h : ∀ (kV doc pm : Value) (an : Option Addr) (cdv ct : Value) (us : List Value), us.length = ps.length → bindArgs (PySem.W.fnOf x qual (defArgs st) (defBody st) (defScope st) .none kV doc pm an cdv ct) ⟨us, []⟩ = pure (ps.zip us)) (s : Shared) (us : List Value) (hl : us.length = ps.length) : BindsTo s fd ⟨us, []⟩ (ps.zip us) := by
 obtain ⟨oc, od, kV, doc, pm, an, cdv, ct, osl, rfl, lk, hcd⟩ := F.ex
 exact .of_eq (h kV doc pm an cdv ct us hl)
end G
namespace G
open PySem PySem.Spec PyProof.Rows L2
section
variable {K : PySem.W.Frag} {σ σ' : L2.St} {H : Hp} {F : List Addr} {ta tb te : TE} {v u x y : V} {i j : Int} {t tu : TT} {b c a : Bool} {α β : Type} {τ : Ty α} {Q : VK} {D : Ends} {t1 t2 : TS}
theorem val_add (ha : Val ta σ H (.int i)) (hb : Val tb σ H (.int j)) : Val (tOp (rI0 fun i j => .int (i + j)) ta tb) σ H (.int (i + j)) := val_I0 ha hb
theorem val_sub (ha : Val ta σ H (.int i)) (hb : Val tb σ H (.int j)) : Val (tOp (rI0 fun i j => .int (i - j)) ta tb) σ H (.int (i - j)) := val_I0 ha hb
theorem val_lt (ha : Val ta σ H (.int i)) (hb : Val tb σ H (.int j)) : Val (tOp (rI0 fun i j => .bl (decide (i < j))) ta tb) σ H (.bl (decide (i < j))) := val_I0 (g := fun i j => .bl (decide (i < j))) ha hb
theorem val_le (ha : Val ta σ H (.int i)) (hb : Val tb σ H (.int j)) : Val (tOp (rI0 fun i j => .bl (decide (i ≤ j))) ta tb) σ H (.bl (decide (i ≤ j))) := val_I0 (g := fun i j => .bl (decide (i ≤ j))) ha hb
theorem val_gt (ha : Val ta σ H (.int i)) (hb : Val tb σ H (.int j)) : Val (tOp (rI0 fun i j => .bl (decide (j < i))) ta tb) σ H (.bl (decide (j < i))) := val_I0 (g := fun i j => .bl (decide (j < i))) ha hb
theorem val_ge (ha : Val ta σ H (.int i)) (hb : Val tb σ H (.int j)) : Val (tOp (rI0 fun i j => .bl (decide (j ≤ i))) ta tb) σ H (.bl (decide (j ≤ i))) := val_I0 (g := fun i j => .bl (decide (j ≤ i))) ha hb
theorem val_neg (ha : Val ta σ H (.int i)) : Val (tUn (rU fun i => .int (-i)) ta) σ H (.int (-i)) := val_U (g := fun i => .int (-i)) ha
theorem val_mulL (ha : Val ta σ H (.int i)) (hb : Val tb σ H (.int j)) (h : -(2 ^ 64) < i ∧ i < 2 ^ 64) : Val (tOp (rI CMul fun i j => .int (i * j)) ta tb) σ H (.int (i * j)) := val_I (g := fun i j => .int (i * j)) ha hb (.inl h)
theorem val_modc (ha : Val ta σ H (.int i)) (hb : Val tb σ H (.int j)) (h : 0 < j) : Val (tOp (rI (fun _ j => 0 < j) fun i j => .int (i % j)) ta tb) σ H (.int (i % j)) := val_I (g := fun i j => .int (i % j)) ha hb h
theorem val_divc (ha : Val ta σ H (.int i)) (hb : Val tb σ H (.int j)) (h : CDiv i j) : Val (tOp (rI CDiv fun i j => .int (i / j)) ta tb) σ H (.int (i / j)) := val_I (g := fun i j => .int (i / j)) ha hb h
theorem val_pow {n : Nat} (ha : Val ta σ H (.int i)) (hb : Val tb σ H (.int j)) (e : j = (n : Int)) (hn : n ≤ 1000000) (h : i.natAbs < 2 ^ 64) : Val (tOp (rI CPow fun i j => .int (i ^ j.toNat)) ta tb) σ H (.int (i ^ n)) := by
 subst e
 exact val_I (g := fun i j => .int (i ^ j.toNat)) ha hb ⟨by omega, by omega, h⟩
theorem ans_B (h : Val te σ H (.bl b)) : Ans (tB te) σ H b := ans_val h
theorem ans_N (h : Ans t σ H b) : Ans (tNot t) σ H (!b) := ans_not h
theorem ans_andB (h1 : Ans t σ H a) (h2 : a = true → Ans tu σ H b) : Ans (tAnd t tu) σ H (a && b) := by
 cases a with
 | true => exact ans_and h1 (h2 rfl)
 | false => exact ans_and0 h1
theorem ans_orB (h1 : Ans t σ H a) (h2 : a = false → Ans tu σ H b) : Ans (tOr t tu) σ H (a || b) := by
 cases a with
 | true => exact ans_or1 h1
 | false => exact ans_or h1 (h2 rfl)
theorem ans_orO {m : Option Bool} (h1 : Ans t σ H a) (hc : (if a = true then some true else m) = some c) (h2 : m = some c → Ans tu σ H c) : Ans (tOr t tu) σ H c := by
 cases a with
 | true => cases hc; exact ans_or1 h1
 | false => exact ans_or h1 (h2 hc)
theorem val_notV (h : Val ta σ H (.bl a)) : Val (tNotV ta) σ H (.bl (!a)) := fun Q q => h _ ⟨a, rfl, q⟩
theorem val_andV (h1 : Val ta σ H (.bl a)) (h2 : a = true → Val tb σ H (.bl b)) : Val (tAndV ta tb) σ H (.bl (a && b)) := fun Q q => h1 _ ⟨a, rfl, by
 cases a with
 | true => exact iteT (h2 rfl Q q)
 | false => exact iteF q⟩
theorem val_andVO {m : Option Bool} (h1 : Val ta σ H (.bl a)) (hc : (if a = true then m else some false) = some c) (h2 : m = some c → Val tb σ H (.bl c)) : Val (tAndV ta tb) σ H (.bl c) := fun Q q => h1 _ ⟨a, rfl, by
 cases a with
 | true => exact iteT (h2 hc Q q)
 | false => cases hc; exact iteF q⟩
theorem w_op {r : R2} (h : ta σ H fun x H1 => tb σ H1 fun y H2 => r x y H2 Q) : tOp r ta tb σ H Q := h
theorem w_cb {r : List V → Hp → VK → Prop} {ts : TA} (h : ts σ H fun vs H1 => r vs H1 Q) : tCB r ts σ H Q := h
theorem w_call {sp : Sp} {dvs : List V} {E : XK} {ts : TA} (h : ts σ H fun vs H1 => sp (vs ++ dvs) H1 Q E) : tCall sp dvs E ts σ H Q := h
theorem w_cons {tr : TA} {Q : List V → Hp → Prop} (h : ta σ H fun x H1 => tr σ H1 fun xs H2 => Q (x :: xs) H2) : tCons ta tr σ H Q := h
theorem w_nil {Q : List V → Hp → Prop} (h : Q [] H) : tNil σ H Q := h
theorem w_args {ts : TA} {vs : List V} {Q : List V → Hp → Prop} (h : VaA ts σ H vs) (k : Q vs H) : ts σ H Q := h Q k
def LstG (xs : List V) (H : Hp) (Q : VK) : Prop := xs.length ≤ sizeLine ∧ ∀ p, H p = none → Q (.ref p) (upd H p (.lst xs))
def TupG (xs : List V) (H : Hp) (Q : VK) : Prop := xs.length ≤ sizeLine ∧ ∀ p, H p = none → Q (.ref p) (upd H p (.tup xs))
theorem w_lst {ts : TA} (h : ts σ H fun xs H1 => LstG xs H1 Q) : L2.tLst ts σ H Q := h
theorem w_tup {ts : TA} (h : ts σ H fun xs H1 => TupG xs H1 Q) : L2.tTup ts σ H Q := h
theorem w_test {Q : Bool → Hp → Prop} (h : te σ H fun x H' => ∃ k, x = .bl k ∧ Q k H') : tTest te σ H Q := h
theorem w_B {Q : Bool → Hp → Prop} (h : te σ H fun x H' => ∃ k, x = .bl k ∧ Q k H') : tB te σ H Q := h
theorem w_not {Q : Bool → Hp → Prop} (h : t σ H fun c H1 => Q (!c) H1) : tNot t σ H Q := h
theorem w_and {Q : Bool → Hp → Prop} (h : t σ H fun c H1 => if c = true then tu σ H1 Q else Q false H1) : tAnd t tu σ H Q := h
theorem w_or {Q : Bool → Hp → Prop} (h : t σ H fun c H1 => if c = true then Q true H1 else tu σ H1 Q) : tOr t tu σ H Q := h
theorem w_andV (h : ta σ H fun x H1 => ∃ c, x = .bl c ∧ if c = true then tb σ H1 Q else Q (.bl false) H1) : tAndV ta tb σ H Q := h
theorem w_notV (h : ta σ H fun x H1 => ∃ c, x = .bl c ∧ Q (.bl (!c)) H1) : tNotV ta σ H Q := h
theorem w_I0 {g : Int → Int → V} (k : Q (g i j) H) : rI0 g (.int i) (.int j) H Q := ⟨i, j, rfl, rfl, k⟩
theorem w_mul {r : Int} (h : Mi.mul i j = some r) (k : Q (.int r) H) : rI CMul (fun i j => .int (i * j)) (.int i) (.int j) H Q := ⟨i, j, rfl, rfl, (mulC h).1, by show Q (.int (i * j)) H; rw [(mulC h).2]; exact k⟩
theorem w_mod {r : Int} (h : Mi.mod i j = some r) (k : Q (.int r) H) : rI (fun _ j => 0 < j) (fun i j => .int (i % j)) (.int i) (.int j) H Q := ⟨i, j, rfl, rfl, (modC h).1, by show Q (.int (i % j)) H; rw [(modC h).2]; exact k⟩
theorem w_eqI (k : Q (.bl (decide (i = j))) H) : rEq (.int i) (.int j) H Q := ⟨rfl, by rw [dI]; exact k⟩
theorem w_int (k : Q (.int i) H) : rInt1 [.int i] H Q := .inl ⟨i, rfl, k⟩
theorem w_max2 (k : Q (.int (max i j)) H) : rMax2 [.int i, .int j] H Q := ⟨i, j, rfl, by
 have e : (if j > i then j else i) = max i j := by split <;> omega
 rw [e]; exact k⟩
theorem w_min2 (k : Q (.int (min i j)) H) : rMin2 [.int i, .int j] H Q := ⟨i, j, rfl, by
 have e : (if j < i then j else i) = min i j := by split <;> omega
 rw [e]; exact k⟩
theorem w_lenL {xs : List α} (r : (yLst τ).rep K H F v xs) (k : Q (.int (xs.length : Int)) H) : rLenQ K [v] H Q := by
 obtain ⟨a, vs, e, s, q⟩ := lst_sq r
 subst e
 exact ⟨a, vs, rfl, .inl s, by rw [pr_len q]; exact k⟩
theorem w_ixL {xs : List α} {x : α} (r : (yLst τ).rep K H F v xs) (h : Mi.at_ xs i = some x) (k : ∀ u, τ.rep K H [] u x → Q u H) : rIxL K v (.int i) H Q := by
 obtain ⟨a, vs, e, s, q⟩ := lst_sq r
 subst e
 obtain ⟨u, e, ru⟩ := pr_at q h
 exact ⟨a, vs, i, u, rfl, rfl, s, e, k u ru⟩
theorem e_lst {vs : List V} {xs : List α} (z : vs.length ≤ Mi.big) (r : Paired (fun u x => τ.rep K H [] u x) vs xs) (k : ∀ p H', H p = none → Chg [] H H' → (yLst τ).rep K H' [p] (.ref p) xs → Q (.ref p) H') :
 LstG vs H Q := ⟨sz z, fun p np => k p _ np (Chg.lay np trivial)
   ⟨p, vs, rfl, rfl, upd_same, Paired.mapP r fun u x q => Ty.ex q (Chg.lay np trivial)⟩⟩
theorem e_tup {ty : Tys α} {vs : List V} {d : α} {F : List Addr} (z : vs.length ≤ Mi.big) (r : ty.rep K H F vs d) (k : ∀ p H', H p = none → Chg [] H H' → (yTup ty).rep K H' F (.ref p) d → Q (.ref p) H') :
 TupG vs H Q := ⟨sz z, fun p np => k p _ np (Chg.lay np trivial)
   ⟨p, vs, rfl, .inl (.inl upd_same), ty.keep r fun b o e _ => by rw [upd_ne (ne_of_none e np)]; exact e⟩⟩
theorem w_next (h : D.nx σ H) : tNext D σ H := h
theorem w_ifS (h : t σ H fun b H1 => if b = true then t1 D σ H1 else t2 D σ H1) : tIfS t t1 t2 D σ H := h
theorem w_gsub {to ti : TE} {ts : TSet} {Q : L2.St → Hp → Prop} (h : to σ H fun o H1 => ti σ H1 fun i H2 => ts o i v H2 fun H3 => Q σ H3) : gSub to ti ts v σ H Q := h
theorem w_bm {T : String} {r : V → List V → Hp → VK → Prop} {to : TE} {ts : TA} (h : to σ H fun x H1 => tyV K T x H1 ∧ ts σ H1 fun xs H2 => r x xs H2 Q) : tBM K T r to ts σ H Q := h
theorem tyv_lst {xs : List α} (r : (yLst τ).rep K H F v xs) : tyV K "list" v H := by
 obtain ⟨a, vs, rfl, s, q⟩ := lst_sq r
 exact .inl ⟨rfl, _, s⟩
theorem j_tt {R : Hp → Prop} {Q : Bool → Hp → Prop} (c : Bool) (w : ∀ Q' : Bool → Hp → Prop, (∀ H', R H' → Q' c H') → t σ H Q') (k : ∀ H', R H' → Q c H') : t σ H Q := w Q k
theorem j_te {R : Hp → Prop} (x : V) (w : ∀ Q' : VK, (∀ H', R H' → Q' x H') → te σ H Q') (k : ∀ H', R H' → Q x H') : te σ H Q := w Q k
theorem q_asg {g : TG} (h : te σ H fun x H1 => g x σ H1 (t2 D)) : tSeq (tAsg te g) t2 D σ H := h
theorem q_setE {k : Nat} {w : V} (h : Val te σ H v) (ev : v = w) (e : σ.set k (some w) = σ') (q : t2 D σ' H) : tSeq (tAsg te (gName k)) t2 D σ H := by
 subst ev
 exact h _ (by show t2 D (σ.set k (some v)) H; rw [e]; exact q)
theorem q_drop (h : te σ H fun _ H1 => t2 D σ H1) : tSeq (tDrop te) t2 D σ H := h
theorem q_ret (h : te σ H D.rt) : tSeq (tRet te) t2 D σ H := h
theorem q_cont (h : D.ct σ H) : tSeq tCont t2 D σ H := h
theorem q_if {t3 : TS} (h : Ans t σ H b) (h1 : b = true → t1 { D with nx := t2 D } σ H) (h2 : b = false → t3 { D with nx := t2 D } σ H) : tSeq (tIfS t t1 t3) t2 D σ H := h _ (c_if h1 h2)
theorem q_ifS {t3 : TS} (h : t σ H fun b H1 => if b = true then t1 { D with nx := t2 D } σ H1 else t3 { D with nx := t2 D } σ H1) : tSeq (tIfS t t1 t3) t2 D σ H := h
theorem w_fall (h : t2 D σ H) : tNext { D with nx := t2 D } σ H := h
theorem w_nextJ {nx bk ct : L2.St → Hp → Prop} {rt : VK} (h : nx σ H) : tNext (Ends.mk nx rt bk ct) σ H := h
def LoopG (J : It) (g : TG) (tb : TS) (D : Ends) (nx : L2.St → Hp → Prop) (σ : L2.St) (H : Hp) : Prop := ∃ W : Nat → Nat → L2.St → Hp → Prop, (∃ m, W 0 m σ H) ∧ ∀ i m σ H, W i m σ H →
 (J.stop i H ∧ nx σ H) ∨ (J.go i H ∧ ∃ N : L2.St → Hp → Prop, (∀ σ' H', N σ' H' → ∃ m', m' < m ∧ W (i + 1) m' σ' H') ∧ ∀ x H', J.yld i H x H' → g x σ H' fun σ2 H2 => tb { D with nx := N, ct := N, bk := nx } σ2 H2)
theorem q_for {wi : TI} {g : TG} {tb : TS} (h : wi σ H fun J H1 => LoopG J g tb D (t2 D) σ H1) : tSeq (tFor wi g tb) t2 D σ H := h
theorem w_iList {tl : TE} {R : It → Hp → Prop} (h : tl σ H fun x H1 => ∃ a, x = .ref a ∧ (∃ xs, SqL K H1 a xs) ∧ R (Itl K a) H1) : iList K tl σ H R := h
theorem w_iTup {tl : TE} {R : It → Hp → Prop} (h : tl σ H fun x H1 => ∃ a, x = .ref a ∧ (∃ xs, SqT K H1 a xs) ∧ R (Itt K a) H1) : iTup K tl σ H R := h
theorem w_iRng1 {ts : TA} {R : It → Hp → Prop} (h : ts σ H fun vs H1 => ∃ j : Int, vs = [.int j] ∧ -(2 ^ 62) ≤ j ∧ j < 2 ^ 62 ∧ R (Itr 0 j.toNat) H1) : iRng1 ts σ H R := h
theorem w_iRng2 {ts : TA} {R : It → Hp → Prop} (h : ts σ H fun vs H1 => ∃ i j : Int, vs = [.int i, .int j] ∧ (-(2 ^ 62) ≤ i ∧ i < 2 ^ 62 ∧ -(2 ^ 62) ≤ j ∧ j < 2 ^ 62) ∧ R (Itr i (j - i).toNat) H1) : iRng2 ts σ H R := h
theorem rngO_some {lo hi : Int} {g : List Int} (h : Mi.rngO lo hi = some g) : g = Mi.rng lo hi ∧ (-(2 ^ 60) ≤ lo ∧ lo < 2 ^ 60) ∧ (-(2 ^ 60) ≤ hi ∧ hi < 2 ^ 60) := by
 unfold Mi.rngO at h
 split at h
 · rename_i c
   exact ⟨(Option.some.inj h).symm, c⟩
 · cases h
theorem rng_len (lo hi : Int) : (Mi.rng lo hi).length = (hi - lo).toNat := by unfold Mi.rng; rw [List.length_map, List.length_range]
theorem rng_at {lo hi : Int} {i : Nat} (h : i < (hi - lo).toNat) : (Mi.rng lo hi)[i]? = some (lo + i) := by
 unfold Mi.rng
 rw [List.getElem?_map, List.getElem?_range h]
 rfl
theorem l_rng {g : TG} {tb : TS} {nx : L2.St → Hp → Prop} {lo hi : Int} (Pv : Nat → L2.St → Hp → Prop) (h0 : Pv 0 σ H)
 (hs : ∀ (i : Nat) (x : Int) σ' H', (Mi.rng lo hi)[i]? = some x → Pv i σ' H' → g (.int x) σ' H' fun σ2 H2 => tb { D with nx := Pv (i + 1), ct := Pv (i + 1), bk := nx } σ2 H2) (hd : ∀ σ' H', Pv (Mi.rng lo hi).length σ' H' → nx σ' H') :
 LoopG (Itr lo (hi - lo).toNat) g tb D nx σ H := for_range (D := { D with nx := nx }) (lo := lo) (n := (hi - lo).toNat) Pv h0 (fun i σ' H' hi' p => hs i _ σ' H' (rng_at hi') p) (fun σ' H' p => hd σ' H' (by rw [rng_len]; exact p))
theorem l_rng1 {g : TG} {tb : TS} {nx : L2.St → Hp → Prop} {hi : Int} {xs : List Int} (hg : Mi.rngO 0 hi = some xs) (Pv : Nat → L2.St → Hp → Prop) (h0 : Pv 0 σ H)
   (hs : ∀ (i : Nat) (x : Int) σ' H', xs[i]? = some x → Pv i σ' H' → g (.int x) σ' H' fun σ2 H2 => tb { D with nx := Pv (i + 1), ct := Pv (i + 1), bk := nx } σ2 H2) (hd : ∀ σ' H', Pv xs.length σ' H' → nx σ' H') :
   ∃ j : Int, [V.int hi] = [.int j] ∧ -(2 ^ 62) ≤ j ∧ j < 2 ^ 62 ∧ LoopG (Itr 0 j.toNat) g tb D nx σ H := by
 obtain ⟨rfl, _, h1, h2⟩ := rngO_some hg
 refine ⟨hi, rfl, by omega, by omega, ?_⟩
 have e : hi.toNat = (hi - 0).toNat := by rw [Int.sub_zero]
 rw [e]
 exact l_rng Pv h0 hs hd
theorem l_rng2 {g : TG} {tb : TS} {nx : L2.St → Hp → Prop} {lo hi : Int} {xs : List Int} (hg : Mi.rngO lo hi = some xs) (Pv : Nat → L2.St → Hp → Prop) (h0 : Pv 0 σ H)
   (hs : ∀ (i : Nat) (x : Int) σ' H', xs[i]? = some x → Pv i σ' H' → g (.int x) σ' H' fun σ2 H2 => tb { D with nx := Pv (i + 1), ct := Pv (i + 1), bk := nx } σ2 H2) (hd : ∀ σ' H', Pv xs.length σ' H' → nx σ' H') :
   ∃ i j : Int, [V.int lo, V.int hi] = [.int i, .int j] ∧ (-(2 ^ 62) ≤ i ∧ i < 2 ^ 62 ∧ -(2 ^ 62) ≤ j ∧ j < 2 ^ 62) ∧ LoopG (Itr i (j - i).toNat) g tb D nx σ H := by
 obtain ⟨rfl, h1, h2⟩ := rngO_some hg
 exact ⟨lo, hi, rfl, by omega, l_rng Pv h0 hs hd⟩
theorem l_lst {g : TG} {tb : TS} {nx : L2.St → Hp → Prop} {xs : List α} (r : (yLst τ).rep K H F v xs) (Pv : Nat → L2.St → Hp → Prop) (h0 : Pv 0 σ H) (hl : ∀ i σ' H', Pv i σ' H' → (yLst τ).rep K H' F v xs)
   (hs : ∀ (i : Nat) (x : α) (u : V) σ' H', xs[i]? = some x → τ.rep K H' [] u x → Pv i σ' H' → g u σ' H' fun σ2 H2 => tb { D with nx := Pv (i + 1), ct := Pv (i + 1), bk := nx } σ2 H2) (hd : ∀ σ' H', Pv xs.length σ' H' → nx σ' H') :
   ∃ a, v = .ref a ∧ (∃ xs, SqL K H a xs) ∧ LoopG (Itl K a) g tb D nx σ H := by
 obtain ⟨a, vs, e, s, q⟩ := lst_sq r
 refine ⟨a, e, ⟨vs, s⟩, fun i m σ' H' => m = xs.length - i ∧ i ≤ xs.length ∧ Pv i σ' H', ⟨xs.length, by omega, Nat.zero_le _, h0⟩, ?_⟩
 rintro i m σ' H' ⟨rfl, hi, p⟩
 obtain ⟨a', vs', e', s', q'⟩ := lst_sq (hl i σ' H' p)
 obtain rfl : a = a' := by rw [e] at e'; exact V.ref.inj e'
 by_cases hlt : i < xs.length
 · obtain ⟨u, hu, ru⟩ := pr_get q' (List.getElem?_eq_getElem hlt)
   refine .inr ⟨⟨vs', u, s', hu⟩, Pv (i + 1), fun σ2 H2 p' => ⟨xs.length - (i + 1), by omega, rfl, hlt, p'⟩, fun x H2 y => ?_⟩
   obtain ⟨rfl, y⟩ := y
   obtain rfl : x = u := Option.some.inj ((y _ s').symm.trans hu)
   exact hs i _ _ σ' _ (List.getElem?_eq_getElem hlt) ru p
 · obtain rfl : i = xs.length := by omega
   exact .inl ⟨⟨vs', s', by rw [pr_len q']; exact Nat.le_refl _⟩, hd σ' H' p⟩
theorem l_tup {g : TG} {tb : TS} {nx : L2.St → Hp → Prop} {xs : List α} (r : (yTupL τ).rep K H F v xs) (Pv : Nat → L2.St → Hp → Prop) (h0 : Pv 0 σ H) (hl : ∀ i σ' H', Pv i σ' H' → (yTupL τ).rep K H' F v xs)
   (hs : ∀ (i : Nat) (x : α) (u : V) σ' H', xs[i]? = some x → τ.rep K H' [] u x → Pv i σ' H' → g u σ' H' fun σ2 H2 => tb { D with nx := Pv (i + 1), ct := Pv (i + 1), bk := nx } σ2 H2) (hd : ∀ σ' H', Pv xs.length σ' H' → nx σ' H') :
   ∃ a, v = .ref a ∧ (∃ xs, SqT K H a xs) ∧ LoopG (Itt K a) g tb D nx σ H := by
 obtain ⟨a, vs, e, s, q⟩ := tupl_sq r
 refine ⟨a, e, ⟨vs, s⟩, fun i m σ' H' => m = xs.length - i ∧ i ≤ xs.length ∧ Pv i σ' H', ⟨xs.length, by omega, Nat.zero_le _, h0⟩, ?_⟩
 rintro i m σ' H' ⟨rfl, hi, p⟩
 obtain ⟨a', vs', e', s', q'⟩ := tupl_sq (hl i σ' H' p)
 obtain rfl : a = a' := by rw [e] at e'; exact V.ref.inj e'
 by_cases hlt : i < xs.length
 · obtain ⟨u, hu, ru⟩ := pr_get q' (List.getElem?_eq_getElem hlt)
   refine .inr ⟨⟨vs', u, s', hu⟩, Pv (i + 1), fun σ2 H2 p' => ⟨xs.length - (i + 1), by omega, rfl, hlt, p'⟩, fun x H2 y => ?_⟩
   obtain ⟨rfl, y⟩ := y
   obtain rfl : x = u := Option.some.inj ((y _ s').symm.trans hu)
   exact hs i _ _ σ' _ (List.getElem?_eq_getElem hlt) ru p
 · obtain rfl : i = xs.length := by omega
   exact .inl ⟨⟨vs', s', by rw [pr_len q']; exact Nat.le_refl _⟩, hd σ' H' p⟩
end
def At {α β : Type} (ts : Tys α) (n : Nat) (τ : Ty β) (p : α → β) : Prop := ∀ {K : PySem.W.Frag} {H : Hp} {F : List Addr} {vs : List V} {d : α}, ts.rep K H F vs d → ∃ u F1, vs[n]? = some u ∧ τ.rep K H F1 u (p d) ∧ ∀ a ∈ F1, a ∈ F
theorem at1 {α : Type} {τ : Ty α} : At (sOne τ) 0 τ id := fun h => by
 obtain ⟨v, rfl, r⟩ := h
 exact ⟨v, _, rfl, r, fun _ h => h⟩
theorem at0 {α β : Type} {τ : Ty α} {ts : Tys β} : At (sCons τ ts) 0 τ (fun d => d.1) := fun h => by
 obtain ⟨v, ws, F1, F2, rfl, rfl, r, q⟩ := h
 exact ⟨v, F1, rfl, r, fun _ h => List.mem_append_left _ h⟩
theorem atS {α β γ : Type} {τ : Ty α} {ts : Tys β} {n : Nat} {υ : Ty γ} {p : β → γ} (A : At ts n υ p) : At (sCons τ ts) (n + 1) υ (fun d => p d.2) := fun h => by
 obtain ⟨v, ws, F1, F2, rfl, rfl, r, q⟩ := h
 obtain ⟨u, F3, e, ru, sub⟩ := A q
 exact ⟨u, F3, e, ru, fun _ h => List.mem_append_right _ (sub _ h)⟩
theorem Dj.sub {F G F1 : List Addr} (d : Dj F G) (s : ∀ a ∈ F1, a ∈ F) : Dj F1 G := fun a h => d a (s a h)
theorem itm_tup {α β : Type} {ts : Tys α} {n : Nat} {τ : Ty β} {p : α → β} {K : PySem.W.Frag} {H : Hp} {F : List Addr} {v : V} {d : α} (A : At ts n τ p) (r : (yTup ts).rep K H F v d) :
   ∃ u F1, τ.rep K H F1 u (p d) ∧ (∀ a ∈ F1, a ∈ F) ∧ (∀ {Q : VK}, Q u H → rIxT K v (.int (n : Int)) H Q) ∧ ∀ {σ : L2.St} {ta tb : TE}, Val ta σ H v → Val tb σ H (.int (n : Int)) → Val (tOp (rIxT K) ta tb) σ H u := by
 obtain ⟨a, vs, rfl, s, q⟩ := r
 obtain ⟨u, F1, e, ru, sub⟩ := A q
 have k : ∀ {Q : VK}, Q u H → rIxT K (.ref a) (.int (n : Int)) H Q := fun k => ⟨a, vs, n, u, rfl, rfl, s, atI_nat e, k⟩
 exact ⟨u, F1, ru, sub, k, fun ha hb => val_op ha hb fun Q q => k q⟩
end G
namespace G
open PySem PySem.Spec PyProof.Rows L2
section
variable {K : PySem.W.Frag} {σ σ' : L2.St} {H : Hp} {F G F1 F2 : List Addr} {ta tb te : TE} {v u x y w : V} {i j : Int} {t tu : TT} {b c a : Bool} {α β : Type} {τ : Ty α} {Q : VK} {D : Ends} {t1 t2 : TS}
theorem g_nameE {k : Nat} {Q : L2.St → Hp → Prop} (ev : v = w) (e : σ.set k (some w) = σ') (q : Q σ' H) : gName k v σ H Q := g_name (by rw [ev]; exact e) q
theorem nn_int : V.int i ≠ .non := fun z => nomatch z
theorem nn_lst {xs : List α} (r : (yLst τ).rep K H F v xs) : v ≠ .non := by obtain ⟨a, vs, rfl, _⟩ := r; exact fun z => nomatch z
theorem opt_some {d : Option α} {x : α} (r : (yOpt τ).rep K H F v d) (h : d = some x) : τ.rep K H F v x := by subst h; exact r.2
theorem opt_int {d : Option Int} {x : Int} (r : (yOpt yInt).rep K H F v d) (h : d = some x) : F = [] ∧ v = .int x := opt_some r h
theorem opt_dec {d : Option α} (r : (yOpt τ).rep K H F v d) : decide (v = .non) = d.isNone := by
 cases d with
 | none => obtain ⟨_, rfl⟩ := r; rfl
 | some x => exact decide_eq_false r.1
theorem opt_decN {d : Option α} (r : (yOpt τ).rep K H F v d) : (!decide (v = .non)) = d.isSome := by
 rw [opt_dec r]; cases d <;> rfl
theorem val_isN {d : Option α} (r : (yOpt τ).rep K H F v d) (ha : Val ta σ H v) : Val (tOp rIsN ta (tC .non)) σ H (.bl d.isNone) := val_op ha val_c fun Q q => ⟨rfl, by rw [opt_dec r]; exact q⟩
theorem val_notN {d : Option α} (r : (yOpt τ).rep K H F v d) (ha : Val ta σ H v) : Val (tOp rNotN ta (tC .non)) σ H (.bl d.isSome) := val_op ha val_c fun Q q => ⟨rfl, by rw [opt_decN r]; exact q⟩
theorem Dj.app (d1 : Dj F1 G) (d2 : Dj F2 G) : Dj (F1 ++ F2) G := fun a h => (List.mem_append.mp h).elim (d1 a) (d2 a)
theorem app_fresh {H0 : Hp} (n1 : ∀ a ∈ F1, H0 a = none) (n2 : ∀ a ∈ F2, H0 a = none) : ∀ a ∈ F1 ++ F2, H0 a = none := fun a h => (List.mem_append.mp h).elim (n1 a) (n2 a)
theorem nil_fresh {H0 : Hp} : ∀ a ∈ ([] : List Addr), H0 a = none := fun a h => nomatch h
def LenS {α : Type} (ts : Tys α) (n : Nat) : Prop := ∀ {K : PySem.W.Frag} {H : Hp} {F : List Addr} {vs : List V} {d : α}, ts.rep K H F vs d → vs.length = n
theorem lens_one {τ : Ty α} : LenS (sOne τ) 1 := fun h => by obtain ⟨_, e, _⟩ := h; rw [e]; rfl
theorem lens_cons {τ : Ty α} {ts : Tys β} {n : Nat} (z : LenS ts n) : LenS (sCons τ ts) (n + 1) := fun h => by
 obtain ⟨_, _, _, _, e, _, _, q⟩ := h
 rw [e, List.length_cons, z q]
theorem val_lenU {ts : Tys α} {d : α} {n : Nat} (l : LenS ts n) (r : (yTup ts).rep K H F v d) (ha : Val ta σ H v) : Val (tCB (rLenQ K) (tCons ta tNil)) σ H (.int (n : Int)) := by
 obtain ⟨p, vs, rfl, s, q⟩ := r
 exact fun Q k => ha _ ⟨p, vs, rfl, .inr s, by rw [l q]; exact k⟩
theorem g_names {Q : L2.St → Hp → Prop} {σ1 : L2.St} (e : σ1 = σ') (k : Q σ' H) : Q σ1 H := e ▸ k
theorem g_tup2 {β : Type} {τ1 : Ty α} {τ2 : Ty β} {d : α × β} {i1 i2 : Nat} {Q : L2.St → Hp → Prop} (r : (yTup (sCons τ1 (sOne τ2))).rep K H [] v d)
   (k : ∀ u1 u2, τ1.rep K H [] u1 d.1 → τ2.rep K H [] u2 d.2 → Q ((σ.set i1 (some u1)).set i2 (some u2)) H) : gTup K 2 (gCons (gName i1) (gCons (gName i2) gNil)) v σ H Q := by
 obtain ⟨a, vs, rfl, s, v1, ws, F1, F2, rfl, e, r1, v2, rfl, r2⟩ := r
 obtain ⟨rfl, rfl⟩ : F1 = [] ∧ F2 = [] := List.append_eq_nil_iff.mp e.symm
 exact ⟨a, _, rfl, s, rfl, v1, _, rfl, v2, _, rfl, rfl, k v1 v2 r1 r2⟩
end
end G
namespace G
open PySem PySem.Spec PyProof.Rows L2
theorem fn_law {P : Program} {w : World} {K : PySem.W.Frag} {mg : Str → Option Value} {x : Str} {k : Nat} {sp : Sp} {fa : Addr} (hfa : mg x = some (.ref fa)) {p : Str} (c : Cal P w K mg x [p] k sp) :
   ∃ fd : FuncData, (∀ (s : Shared) (v : Value), BindsTo s fd ⟨[v], []⟩ [(p, v)]) ∧ ∀ base : Heap, K.In base → base.Ns mainGlobals mg → FnOk P w K mg base CX0 k fa fd [p] sp := by
 obtain ⟨f, fd, g, _, b, ok⟩ := c.ex
 obtain rfl : fa = f := Value.ref.inj (Option.some.inj (hfa.symm.trans g))
 exact ⟨fd, fun s v => b s [v] rfl, fun base _ _ => ok base⟩
end G
namespace G
open PySem PySem.Spec PyProof.Rows L2
section
variable {K : PySem.W.Frag} {σ σ' : L2.St} {H : Hp} {F F1 F2 : List Addr} {ta tb te : TE} {v u x y w : V} {i j : Int} {t tu tt : TT} {b c a : Bool} {α β : Type} {τ : Ty α} {υ : Ty β} {Q : VK} {D : Ends} {t1 t2 : TS} {g : TG} {ws : List Nat}
def AppG (D : Addr) (N : Hp → Prop) (y : V) (H : Hp) : Prop := ∃ acc, H D = some (.lst acc) ∧ acc.length < sizeLine ∧ N (upd H D (.lst (acc ++ [y])))
def TurnG (g : TG) (tt : TT) (te : TE) (ws : List Nat) (σ : L2.St) (D : Addr) (N : Hp → Prop) (x : V) (H : Hp) : Prop :=
 g x (wipe σ ws) H fun σ2 H2 => wipe σ2 ws = wipe σ ws ∧ tt σ2 H2 fun b H3 => if b = true then te σ2 H3 (AppG D N) else N H3
def CompG (J : It) (g : TG) (tt : TT) (te : TE) (ws : List Nat) (σ : L2.St) (H : Hp) (Q : VK) : Prop := ∀ D, H D = none → ∃ W : Nat → Nat → Hp → Prop, (∃ m, W 0 m (upd H D (.lst []))) ∧ ∀ i m H, W i m H →
 (J.stop i H ∧ Q (.ref D) H) ∨ (J.go i H ∧ ∃ N : Hp → Prop, (∀ H', N H' → ∃ m', m' < m ∧ W (i + 1) m' H') ∧ ∀ x H', J.yld i H x H' → TurnG g tt te ws σ D N x H')
theorem w_lc {wi : TI} (h : wi σ H fun J H1 => CompG J g tt te ws σ H1 Q) : tLc wi g tt te ws σ H Q := h
theorem w_yes {Q : Bool → Hp → Prop} (h : Q true H) : tYes σ H Q := h
theorem empty_lst {p : Addr} (np : H p = none) : (yLst τ).rep K (upd H p (.lst [])) [p] (.ref p) [] := ⟨p, [], rfl, rfl, upd_same, .nil⟩
theorem comp_by {J : It} (n : Nat) (Pv : Addr → Nat → Hp → Prop) (h0 : ∀ D H', H D = none → Chg [] H H' → (yLst τ).rep K H' [D] (.ref D) [] → Pv D 0 H')
   (hs : ∀ D i H', i < n → Pv D i H' → J.go i H' ∧ ∀ x H2, J.yld i H' x H2 → TurnG g tt te ws σ D (Pv D (i + 1)) x H2) (hd : ∀ D H', H D = none → Pv D n H' → J.stop n H' ∧ Q (.ref D) H') : CompG J g tt te ws σ H Q := by
 intro D hD
 refine ⟨fun i m H' => m = n - i ∧ i ≤ n ∧ Pv D i H', ⟨n, by omega, Nat.zero_le _, h0 D _ hD (Chg.lay hD trivial) (empty_lst hD)⟩, ?_⟩
 rintro i m H' ⟨rfl, hi, p⟩
 by_cases hlt : i < n
 · obtain ⟨h1, h2⟩ := hs D i H' hlt p
   exact .inr ⟨h1, Pv D (i + 1), fun H2 p' => ⟨n - (i + 1), by omega, rfl, hlt, p'⟩, h2⟩
 · obtain rfl : i = n := by omega
   exact .inl (hd D H' hD p)
theorem kc_lst {xs : List β} (r : (yLst υ).rep K H F v xs) (Pv : Addr → Nat → Hp → Prop) (h0 : ∀ D H', H D = none → Chg [] H H' → (yLst τ).rep K H' [D] (.ref D) [] → Pv D 0 H') (hl : ∀ D i H', Pv D i H' → (yLst υ).rep K H' F v xs)
   (hs : ∀ D (i : Nat) (x : β) (u : V) H', xs[i]? = some x → υ.rep K H' [] u x → Pv D i H' → TurnG g tt te ws σ D (Pv D (i + 1)) u H') (hd : ∀ D H', H D = none → Pv D xs.length H' → Q (.ref D) H') :
   ∃ a, v = .ref a ∧ (∃ xs, SqL K H a xs) ∧ CompG (Itl K a) g tt te ws σ H Q := by
 obtain ⟨a, vs, e, s, q⟩ := lst_sq r
 refine ⟨a, e, ⟨vs, s⟩, comp_by (K := K) (τ := τ) xs.length Pv h0 (fun D i H' hi p => ?_) (fun D H' hD p => ?_)⟩
 · obtain ⟨a', vs', e', s', q'⟩ := lst_sq (hl D i H' p)
   obtain rfl : a = a' := by rw [e] at e'; exact V.ref.inj e'
   obtain ⟨u, hu, ru⟩ := pr_get q' (List.getElem?_eq_getElem hi)
   refine ⟨⟨vs', u, s', hu⟩, fun x H2 y => ?_⟩
   obtain ⟨rfl, y⟩ := y
   obtain rfl : x = u := Option.some.inj ((y _ s').symm.trans hu)
   exact hs D i _ _ _ (List.getElem?_eq_getElem hi) ru p
 · obtain ⟨a', vs', e', s', q'⟩ := lst_sq (hl D _ H' p)
   obtain rfl : a = a' := by rw [e] at e'; exact V.ref.inj e'
   exact ⟨⟨vs', s', by rw [pr_len q']; exact Nat.le_refl _⟩, hd D H' hD p⟩
theorem kc_tup {xs : List β} (r : (yTupL υ).rep K H F v xs) (Pv : Addr → Nat → Hp → Prop) (h0 : ∀ D H', H D = none → Chg [] H H' → (yLst τ).rep K H' [D] (.ref D) [] → Pv D 0 H') (hl : ∀ D i H', Pv D i H' → (yTupL υ).rep K H' F v xs)
   (hs : ∀ D (i : Nat) (x : β) (u : V) H', xs[i]? = some x → υ.rep K H' [] u x → Pv D i H' → TurnG g tt te ws σ D (Pv D (i + 1)) u H') (hd : ∀ D H', H D = none → Pv D xs.length H' → Q (.ref D) H') :
   ∃ a, v = .ref a ∧ (∃ xs, SqT K H a xs) ∧ CompG (Itt K a) g tt te ws σ H Q := by
 obtain ⟨a, vs, e, s, q⟩ := tupl_sq r
 refine ⟨a, e, ⟨vs, s⟩, comp_by (K := K) (τ := τ) xs.length Pv h0 (fun D i H' hi p => ?_) (fun D H' hD p => ?_)⟩
 · obtain ⟨a', vs', e', s', q'⟩ := tupl_sq (hl D i H' p)
   obtain rfl : a = a' := by rw [e] at e'; exact V.ref.inj e'
   obtain ⟨u, hu, ru⟩ := pr_get q' (List.getElem?_eq_getElem hi)
   refine ⟨⟨vs', u, s', hu⟩, fun x H2 y => ?_⟩
   obtain ⟨rfl, y⟩ := y
   obtain rfl : x = u := Option.some.inj ((y _ s').symm.trans hu)
   exact hs D i _ _ _ (List.getElem?_eq_getElem hi) ru p
 · obtain ⟨a', vs', e', s', q'⟩ := tupl_sq (hl D _ H' p)
   obtain rfl : a = a' := by rw [e] at e'; exact V.ref.inj e'
   exact ⟨⟨vs', s', by rw [pr_len q']; exact Nat.le_refl _⟩, hd D H' hD p⟩
theorem kc_rng {lo hi : Int} (Pv : Addr → Nat → Hp → Prop) (h0 : ∀ D H', H D = none → Chg [] H H' → (yLst τ).rep K H' [D] (.ref D) [] → Pv D 0 H')
   (hs : ∀ D (i : Nat) (x : Int) H', (Mi.rng lo hi)[i]? = some x → Pv D i H' → TurnG g tt te ws σ D (Pv D (i + 1)) (.int x) H') (hd : ∀ D H', H D = none → Pv D (Mi.rng lo hi).length H' → Q (.ref D) H') :
   CompG (Itr lo (hi - lo).toNat) g tt te ws σ H Q := by
 refine comp_by (K := K) (τ := τ) (hi - lo).toNat Pv h0 (fun D i H' hi' p => ⟨hi', fun x H2 y => ?_⟩) (fun D H' hD p => ⟨Nat.le_refl _, hd D H' hD (by rw [rng_len]; exact p)⟩)
 obtain ⟨rfl, rfl⟩ := y
 exact hs D i _ _ (rng_at hi') p
theorem kc_rng1 {hi : Int} {xs : List Int} (hg : Mi.rngO 0 hi = some xs) (Pv : Addr → Nat → Hp → Prop) (h0 : ∀ D H', H D = none → Chg [] H H' → (yLst τ).rep K H' [D] (.ref D) [] → Pv D 0 H')
   (hs : ∀ D (i : Nat) (x : Int) H', xs[i]? = some x → Pv D i H' → TurnG g tt te ws σ D (Pv D (i + 1)) (.int x) H') (hd : ∀ D H', H D = none → Pv D xs.length H' → Q (.ref D) H') :
   ∃ j : Int, [V.int hi] = [.int j] ∧ -(2 ^ 62) ≤ j ∧ j < 2 ^ 62 ∧ CompG (Itr 0 j.toNat) g tt te ws σ H Q := by
 obtain ⟨rfl, _, h1, h2⟩ := rngO_some hg
 refine ⟨hi, rfl, by omega, by omega, ?_⟩
 have e : hi.toNat = (hi - 0).toNat := by rw [Int.sub_zero]
 rw [e]
 exact kc_rng (K := K) (τ := τ) Pv h0 hs hd
theorem e_app {D : Addr} {N : Hp → Prop} {xs ys : List α} {d : α} (r : (yLst τ).rep K H [D] (.ref D) xs) (ru : τ.rep K H [] u d) (hm : Mi.app xs d = some ys) (k : ∀ H', Chg [D] H H' → (yLst τ).rep K H' [D] (.ref D) ys → N H') :
   AppG D N u H := by
 obtain ⟨p, vs, e, f, g, q⟩ := r
 obtain rfl : D = p := V.ref.inj e
 unfold Mi.app at hm
 split at hm
 · rename_i hz
   cases hm
   have c : Chg [D] H (upd H D (.lst (vs ++ [u]))) := Chg.wr g (fun z => z)
   exact ⟨vs, g, Nat.lt_of_lt_of_le (by rw [pr_len q]; exact hz) line_big, k _ c ⟨D, _, rfl, rfl, upd_same, pr_app (Paired.mapP q fun _ _ z => Ty.fz z c) (.cons (Ty.fz ru c) .nil)⟩⟩
 · cases hm
theorem w_cat {xs ys zs : List α} (r : (yLst τ).rep K H F1 v xs) (q : (yLst τ).rep K H F2 u ys) (hm : Mi.cat xs ys = some zs) (k : ∀ p H', H p = none → Chg [] H H' → (yLst τ).rep K H' [p] (.ref p) zs → Q (.ref p) H') : rCat v u H Q := by
 obtain ⟨p, vs, rfl, rfl, g, r1⟩ := r
 obtain ⟨p2, us, rfl, rfl, g2, r2⟩ := q
 unfold Mi.cat at hm
 split at hm
 · rename_i hz
   cases hm
   refine ⟨p, p2, vs, us, rfl, rfl, g, g2, sz (by rw [pr_len r1, pr_len r2]; exact hz), fun n nn => k n _ nn (Chg.lay nn trivial) ⟨n, _, rfl, rfl, upd_same, ?_⟩⟩
   exact Paired.mapP (pr_app r1 r2) fun _ _ z => Ty.ex z (Chg.lay nn trivial)
 · cases hm
theorem w_sl {r : V → Option Int → Option Int → Hp → VK → Prop} {tl th : TO} (h : te σ H fun x H1 => tl σ H1 fun l H2 => th σ H2 fun u H3 => r x l u H3 Q) : tSl r te tl th σ H Q := h
theorem w_pon {Q : Option Int → Hp → Prop} (h : Q none H) : tNoPart σ H Q := h
theorem w_pos {Q : Option Int → Hp → Prop} (h : te σ H fun x H1 => ∃ i, x = .int i ∧ Q (some i) H1) : tPart te σ H Q := h
theorem cut_eq {α : Type} (xs : List α) (lo hi : Option Int) : (xs.drop (HT.sIx xs.length 0 lo)).take (HT.sIx xs.length xs.length hi - HT.sIx xs.length 0 lo) = Mi.cut xs lo hi := by
 have e : ∀ n d o, HT.sIx n d o = Mi.sIx n d o := fun n d o => by cases o <;> rfl
 unfold Mi.cut
 rw [e, e]
theorem pr_cut {R : V → α → Prop} {vs : List V} {xs : List α} (r : Paired R vs xs) (lo hi : Option Int) : Paired R (cutV vs lo hi) (Mi.cut xs lo hi) := by
 rw [← cut_eq]
 unfold cutV
 rw [pr_len r]
 exact pr_take _ (pr_drop _ r)
def rListQ (K : PySem.W.Frag) : List V → Hp → VK → Prop := fun xs H Q => ∃ p ys, xs = [.ref p] ∧ (SqL K H p ys ∨ SqT K H p ys) ∧ ∀ l, H l = none → Q (.ref l) (upd H l (.lst ys))
def rTupleQ (K : PySem.W.Frag) : List V → Hp → VK → Prop := fun xs H Q => ∃ p ys, xs = [.ref p] ∧ ((SqL K H p ys ∧ ∀ l, H l = none → Q (.ref l) (upd H l (.tup ys))) ∨ (SqT K H p ys ∧ Q (.ref p) H))
theorem cl_list {X : Cx} {K : PySem.W.Frag} (e : X.K = K := by rfl) : CallR X (.type "list") (rListQ K) := by subst e; exact call_list_of
theorem cl_tuple {X : Cx} {K : PySem.W.Frag} (e : X.K = K := by rfl) : CallR X (.type "tuple") (rTupleQ K) := by subst e; exact call_tuple_of
theorem w_listL {xs : List α} (r : (yLst τ).rep K H F v xs) (k : ∀ p H', H p = none → Chg [] H H' → (yLst τ).rep K H' [p] (.ref p) xs → Q (.ref p) H') : rListQ K [v] H Q := by
 obtain ⟨p, vs, rfl, s, q⟩ := lst_sq r
 exact ⟨p, vs, rfl, .inl s, fun n nn => k n _ nn (Chg.lay nn trivial) ⟨n, _, rfl, rfl, upd_same, Paired.mapP q fun _ _ z => Ty.ex z (Chg.lay nn trivial)⟩⟩
theorem w_listT {xs : List α} (r : (yTupL τ).rep K H F v xs) (k : ∀ p H', H p = none → Chg [] H H' → (yLst τ).rep K H' [p] (.ref p) xs → Q (.ref p) H') : rListQ K [v] H Q := by
 obtain ⟨p, vs, rfl, s, q⟩ := tupl_sq r
 exact ⟨p, vs, rfl, .inr s, fun n nn => k n _ nn (Chg.lay nn trivial) ⟨n, _, rfl, rfl, upd_same, Paired.mapP q fun _ _ z => Ty.ex z (Chg.lay nn trivial)⟩⟩
theorem w_tupleL {xs : List α} (r : (yLst τ).rep K H F v xs) (k : ∀ v H', Chg [] H H' → (yTupL τ).rep K H' [] v xs → Q v H') : rTupleQ K [v] H Q := by
 obtain ⟨p, vs, rfl, s, q⟩ := lst_sq r
 exact ⟨p, vs, rfl, .inl ⟨s, fun n nn => k _ _ (Chg.lay nn trivial) ⟨n, _, rfl, rfl, .inl (.inl upd_same), Paired.mapP q fun _ _ z => Ty.ex z (Chg.lay nn trivial)⟩⟩⟩
theorem op_in_q {X : Cx} {K : PySem.W.Frag} (e : X.K = K := by rfl) : OpR X (compareOp .In) (rIn K false) := by subst e; exact op_in_seq
theorem op_ni_q {X : Cx} {K : PySem.W.Frag} (e : X.K = K := by rfl) : OpR X (compareOp .NotIn) (rIn K true) := by subst e; exact op_notIn_seq
theorem flat_ints (ns : List Int) : (ns.map V.int).all flatV = true := by
 rw [List.all_eq_true]
 intro x hx
 obtain ⟨n, _, rfl⟩ := List.mem_map.mp hx
 rfl
theorem in_ints (n : Int) : ∀ ns : List Int, inV (.int n) (ns.map V.int) = ns.contains n
 | [] => rfl
 | m :: ns => by
   have ih := in_ints n ns
   unfold inV at ih ⊢
   rw [List.map_cons, List.any_cons, List.contains_cons, ih]
   congr 1
   show (m == n) = (n == m)
   by_cases h : m = n
   · subst h; rfl
   · rw [beq_eq_false_iff_ne.mpr h, beq_eq_false_iff_ne.mpr (Ne.symm h)]
theorem ints_sqL {xs : List Int} (r : (yLst yInt).rep K H F v xs) : ∃ a, v = .ref a ∧ SqL K H a (xs.map V.int) := by
 obtain ⟨a, vs, e, s, q⟩ := lst_sq r
 rw [ints_of q] at s
 exact ⟨a, e, s⟩
theorem ints_sqT {xs : List Int} (r : (yTupL yInt).rep K H F v xs) : ∃ a, v = .ref a ∧ SqT K H a (xs.map V.int) := by
 obtain ⟨a, vs, e, s, q⟩ := tupl_sq r
 rw [ints_of q] at s
 exact ⟨a, e, s⟩
theorem w_inL {xs : List Int} (r : (yLst yInt).rep K H F v xs) (k : Q (.bl (xs.contains i)) H) : rIn K false (.int i) v H Q := by
 obtain ⟨a, rfl, s⟩ := ints_sqL r
 exact ⟨a, _, rfl, .inl s, rfl, flat_ints xs, by rw [if_neg Bool.false_ne_true, in_ints]; exact k⟩
theorem w_niL {xs : List Int} (r : (yLst yInt).rep K H F v xs) (k : Q (.bl (!xs.contains i)) H) : rIn K true (.int i) v H Q := by
 obtain ⟨a, rfl, s⟩ := ints_sqL r
 exact ⟨a, _, rfl, .inl s, rfl, flat_ints xs, by rw [if_pos rfl, in_ints]; exact k⟩
theorem w_inT {xs : List Int} (r : (yTupL yInt).rep K H F v xs) (k : Q (.bl (xs.contains i)) H) : rIn K false (.int i) v H Q := by
 obtain ⟨a, rfl, s⟩ := ints_sqT r
 exact ⟨a, _, rfl, .inr s, rfl, flat_ints xs, by rw [if_neg Bool.false_ne_true, in_ints]; exact k⟩
theorem val_inL {xs : List Int} (r : (yLst yInt).rep K H F v xs) (ha : Val ta σ H (.int i)) (hb : Val tb σ H v) : Val (tOp (rIn K false) ta tb) σ H (.bl (xs.contains i)) := val_op ha hb fun Q q => w_inL r q
theorem val_niL {xs : List Int} (r : (yLst yInt).rep K H F v xs) (ha : Val ta σ H (.int i)) (hb : Val tb σ H v) : Val (tOp (rIn K true) ta tb) σ H (.bl (!xs.contains i)) := val_op ha hb fun Q q => w_niL r q
theorem val_inT {xs : List Int} (r : (yTupL yInt).rep K H F v xs) (ha : Val ta σ H (.int i)) (hb : Val tb σ H v) : Val (tOp (rIn K false) ta tb) σ H (.bl (xs.contains i)) := val_op ha hb fun Q q => w_inT r q
end
end G
namespace G
open PySem PySem.Spec PyProof.Rows L2
theorem lookup_zip {f : Str} : ∀ {ns : List Str} {vs : List V} {n : Nat} {u : V}, ns.Nodup → ns[n]? = some f → vs[n]? = some u → (ns.zip vs).lookup f = some u
 | [], _, _, _, _, h, _ => by simp at h
 | _ :: _, [], _, _, _, _, h => by simp at h
 | m :: ns, w :: vs, 0, u, nd, h, h2 => by
   obtain rfl : m = f := by simpa using h
   obtain rfl : w = u := by simpa using h2
   simp [List.lookup]
 | m :: ns, w :: vs, n + 1, u, nd, h, h2 => by
   have hne : (f == m) = false := by
     rw [beq_eq_false_iff_ne]
     intro e
     subst e
     have h3 : ns[n]? = some f := by simpa using h
     exact (List.nodup_cons.mp nd).1 (List.mem_of_getElem? h3)
   rw [List.zip_cons_cons]
   simp only [List.lookup, hne]
   exact lookup_zip (List.nodup_cons.mp nd).2 (by simpa using h) (by simpa using h2)
def yObj {α : Type} (C : Addr) (ns : List Str) (ts : Tys α) : Ty α where
 rep K H F v d := F = [] ∧ ∃ a dx vs, v = .ref a ∧ H a = some (.ins C dx (ns.zip vs)) ∧ done (ns.zip vs) = true ∧ ts.rep K H [] vs d
 keep {K H H' F v d} h k := by
   obtain ⟨e, a, dx, vs, e2, g, f, r⟩ := h
   exact ⟨e, a, dx, vs, e2, k a _ g (.inr f), f, ts.keep r fun b o hb z => k b o hb (z.elim (fun y => nomatch y) .inr)⟩
 dom {K H F v d} h b m := by rw [h.1] at m; cases m
def yPart (C dx : Addr) (ns : List Str) : Ty (List V) where
 rep K H F v ws := ∃ x, v = .ref x ∧ F = [x] ∧ H x = some (.ins C dx (ns.zip ws)) ∧ done (ns.zip ws) = false
 keep {K H H' F v ws} h k := by
   obtain ⟨x, e, rfl, g, f⟩ := h
   exact ⟨x, e, rfl, k x _ g (.inl (List.mem_singleton.mpr rfl)), f⟩
 dom {K H F v ws} h b m := by
   obtain ⟨x, e, rfl, g, f⟩ := h
   rw [List.mem_singleton] at m; subst m
   exact ⟨_, g, fun z => by have z' : done _ = true := z; rw [f] at z'; cases z'⟩
section
variable {K : PySem.W.Frag} {σ σ' : L2.St} {H : Hp} {F : List Addr} {ta tb te tv : TE} {v u x y w : V} {α β : Type} {τ : Ty α} {Q : VK} {D : Ends} {t1 t2 : TS} {C dx p : Addr} {ns : List Str} {f : Str}
def FldG (K : PySem.W.Frag) (f : Str) (x : V) (H : Hp) (Q : VK) : Prop := ∃ a C dx fs v, x = .ref a ∧ H a = some (.ins C dx fs) ∧ Cls K C ∧ NoAttr K C f ∧ fs.lookup f = some v ∧ Q v H
theorem fld_obj {ts : Tys α} {n : Nat} {υ : Ty β} {pr : α → β} {d : α} (A : At ts n υ pr) (nd : ns.Nodup) (hn : ns[n]? = some f) (c : Cls K C) (na : NoAttr K C f) (r : (yObj C ns ts).rep K H F v d) :
   ∃ u, υ.rep K H [] u (pr d) ∧ (∀ {Q : VK}, Q u H → FldG K f v H Q) ∧ ∀ {σ : L2.St} {ta : TE}, Val ta σ H v → Val (tFld K ta f) σ H u := by
 obtain ⟨_, a, dx, vs, rfl, g, _, rs⟩ := r
 obtain ⟨u, F1, e, ru, sub⟩ := A rs
 have e1 : F1 = [] := by
   cases F1 with
   | nil => rfl
   | cons z zs => exact nomatch sub z (List.mem_cons_self ..)
 subst e1
 have k : ∀ {Q : VK}, Q u H → FldG K f (.ref a) H Q := fun q => ⟨a, C, dx, _, u, rfl, g, c, na, lookup_zip nd hn e, q⟩
 exact ⟨u, ru, k, fun ha Q q => ha _ (k q)⟩
def SFldG (K : PySem.W.Frag) (f : Str) (y x : V) (H : Hp) (X : Hp → Prop) : Prop := ∃ a C dx fs, x = .ref a ∧ H a = some (.ins C dx fs) ∧ Cls K C ∧ NoAttr K C f ∧ fs.length < 1000 ∧ X (upd H a (.ins C dx (putF f y fs)))
theorem q_fld (h : tv σ H fun y H1 => ta σ H1 fun x H2 => SFldG K f y x H2 (t2 D σ)) : tSeq (sFld K ta tv f) t2 D σ H := h
theorem putF_zip {f : Str} {y : V} : ∀ {ns : List Str} {ws : List V}, f ∉ ns → ns.length = ws.length → putF f y (ns.zip ws) = (ns ++ [f]).zip (ws ++ [y])
 | [], [], _, _ => rfl
 | [], _ :: _, _, h => by simp at h
 | _ :: _, [], _, h => by simp at h
 | m :: ns, w :: ws, hf, h => by
   have hne : f ≠ m := fun e => hf (by rw [e]; exact List.mem_cons_self ..)
   have ih := putF_zip (f := f) (y := y) (ns := ns) (ws := ws) (fun z => hf (List.mem_cons_of_mem _ z)) (by simpa using h)
   rw [List.zip_cons_cons]
   show putF f y ((m, w) :: ns.zip ws) = _
   unfold putF
   split
   · rename_i e
     exact absurd (by simpa using e) (by first | exact hne | exact (Ne.symm hne))
   · rw [ih]; rfl
theorem m_fldE {ws : List V} {X : Hp → Prop} {ts : Tys α} {d : α} (r : (yPart C dx ns).rep K H F v ws) (c : Cls K C) (na : NoAttr K C f) (hf : f ∉ ns) (hl : ns.length = ws.length) (hs : ns.length < 900) (hd : done ((ns ++ [f]).zip (ws ++ [y])) = true)
   (rs : ts.rep K H [] (ws ++ [y]) d) (k : ∀ H', Chg F H H' → (yObj C (ns ++ [f]) ts).rep K H' [] v d → X H') : SFldG K f y v H X := by
 obtain ⟨a, rfl, rfl, g, nf⟩ := r
 have cc : Chg [a] H (upd H a (.ins C dx (putF f y (ns.zip ws)))) := Chg.wr g (fun z => by have z' : done _ = true := z; rw [nf] at z'; cases z') (fun _ _ _ z => by cases z; exact ⟨_, rfl⟩) (.inr ⟨_, g⟩)
 refine ⟨a, C, dx, _, rfl, g, c, na, by rw [List.length_zip, ← hl]; omega, k _ cc ⟨rfl, a, dx, _, rfl, ?_, hd, ts.keep rs fun b o hb z => cc.keep b o hb (z.elim (fun y => nomatch y) .inr)⟩⟩
 rw [upd_same, putF_zip hf hl]
def MakeG (C : Addr) (sp : Sp) (E : XK) (vs : V → List V) (H : Hp) (Q : VK) : Prop := ∀ x dx, H x = none → H dx = none → dx ≠ x → sp (vs (.ref x)) (upd (upd H dx (.own x)) x (.ins C dx [])) (fun v H3 => v = .non ∧ Q (.ref x) H3) E
theorem make_chg {x : Addr} {fs : List (Str × V)} (nx : H x = none) (nd : H dx = none) (ne : dx ≠ x) : Chg [] H (upd (upd H dx (.own x)) x (.ins C dx fs)) := by
 refine ⟨fun b o h _ => ?_, fun b h => ?_, fun a C' d fs' h => ⟨fs', ?_⟩, fun b o h => ?_⟩
 · rw [upd_ne (ne_of_none h nx), upd_ne (ne_of_none h nd)]; exact h
 · by_cases e : b = x
   · subst e; exact nx
   · rw [upd_ne e] at h
     by_cases e2 : b = dx
     · subst e2; exact nd
     · rw [upd_ne e2] at h; exact h
 · rw [upd_ne (ne_of_none h nx), upd_ne (ne_of_none h nd)]; exact h
 · by_cases e : b = x
   · subst e; rw [upd_same] at h; cases h; exact .inr (.inl nd)
   · rw [upd_ne e] at h
     by_cases e2 : b = dx
     · subst e2; rw [upd_same] at h; cases h; exact .inr ⟨_, _, upd_same⟩
     · rw [upd_ne e2] at h; exact .inl h
theorem make_new {x : Addr} (nx : H x = none) (nd : H dx = none) (ne : dx ≠ x) : Chg [] H (upd (upd H dx (.own x)) x (.ins C dx [])) ∧ (yPart C dx []).rep K (upd (upd H dx (.own x)) x (.ins C dx [])) [x] (.ref x) [] :=
 ⟨make_chg nx nd ne, x, rfl, rfl, upd_same, rfl⟩
end
end G
namespace G
open PySem PySem.Spec PyProof.Rows L2
structure Tx (K : PySem.W.Frag) (mg : Str → Option Value) (C : Addr) (x : Str) (ns : List Str) : Prop where
 cls : Cls K C
 mgC : mg x = some (.ref C)
 na : ∀ f ∈ ns, NoAttr K C f
structure CalM (P : Program) (w : World) (K : PySem.W.Frag) (mg : Str → Option Value) (C : Addr) (m : Str) (ps : List Str) (k : Nat) (sp : Sp) : Prop where
 ex : ∃ f fd, Meth K C m f ∧ (∀ (s : Shared) (us : List Value), us.length = ps.length → BindsTo s fd ⟨us, []⟩ (ps.zip us)) ∧ ∀ base : Heap, FnOk P w K mg base CX0 k f fd ps sp
structure CalI (P : Program) (w : World) (K : PySem.W.Frag) (mg : Str → Option Value) (C : Addr) (qual : Str) (st : Stmt) (kws : List (Str × V)) (ps : List Str) (k : Nat) (sp : Sp) : Prop where
 ex : ∃ f fd, Mk K C f ∧ FunD K "__init__" qual (defArgs st) (defBody st) (defScope st) [] kws f fd ∧ ∀ base : Heap, FnOk P w K mg base CX0 k f fd ps sp
structure DfnM (K : PySem.W.Frag) (C : Addr) (m qual : Str) (st : Stmt) : Prop where
 ex : ∃ f fd, Fun K m qual st f fd ∧ Meth K C m f
structure DfnI (K : PySem.W.Frag) (C : Addr) (qual : Str) (st : Stmt) (kws : List (Str × V)) : Prop where
 ex : ∃ f fd, FunD K "__init__" qual (defArgs st) (defBody st) (defScope st) [] kws f fd ∧ Mk K C f
section
variable {X : Cx} {K : PySem.W.Frag} {σ : L2.St} {H : Hp} {F : List Addr} {ta te : TE} {v : V} {α : Type} {Q : VK} {C : Addr} {ns : List Str} {m : Str}
def MethG (C : Addr) (m : Str) (x : V) (H : Hp) (R : Prop) : Prop := ∃ a dx fs, x = .ref a ∧ H a = some (.ins C dx fs) ∧ fs.lookup m = none ∧ R
theorem w_meth {sp : Sp} {E : XK} {ts : TA} (h : ta σ H fun x H1 => MethG C m x H1 (ts σ H1 fun vs H2 => sp (x :: (vs ++ [])) H2 Q E)) : tMeth C m sp [] E ta ts σ H Q := h
theorem lookup_none {f : Str} : ∀ {ns : List Str} {vs : List V}, f ∉ ns → (ns.zip vs).lookup f = none
 | [], _, _ => rfl
 | _ :: _, [], _ => rfl
 | m :: ns, w :: vs, h => by
   have hne : (f == m) = false := by
     rw [beq_eq_false_iff_ne]
     exact fun e => h (by rw [e]; exact List.mem_cons_self ..)
   rw [List.zip_cons_cons]
   simp only [List.lookup, hne]
   exact lookup_none fun z => h (List.mem_cons_of_mem _ z)
theorem meth_obj {ts : Tys α} {d : α} {R : Prop} (r : (yObj C ns ts).rep K H F v d) (hm : m ∉ ns) (k : R) : MethG C m v H R := by
 obtain ⟨_, a, dx, vs, rfl, g, _, _⟩ := r
 exact ⟨a, dx, _, rfl, g, lookup_none hm, k⟩
theorem w_mk {sp : Sp} {E : XK} {t : TA} {dvs : List V} (h : t σ H fun vs H1 => MakeG C sp E (fun x => x :: (vs ++ dvs)) H1 Q) : tMake C sp dvs E t σ H Q := h
end
end G
namespace G
open PySem PySem.Spec PyProof.Rows L2
section
variable {K : PySem.W.Frag} {σ σ' : L2.St} {H : Hp} {F F1 F2 Fu : List Addr} {ta tb te : TE} {v u x y : V} {i j : Int} {t tu tt : TT} {b c a : Bool} {α β : Type} {τ : Ty α} {υ : Ty β} {Q : VK} {D : Ends} {t1 t2 : TS} {g : TG} {ws : List Nat}
theorem cl_sortedL {X : Cx} {K : PySem.W.Frag} (e : X.K = K := by rfl) : CallR X (.builtin "sorted") (rSortedI K) := by subst e; exact cr_sortedI
theorem sortI_perm (xs : List Int) : (Mi.sortI xs).Perm xs := List.mergeSort_perm _ _
theorem sortI_sorted (xs : List Int) : (Mi.sortI xs).Pairwise (· ≤ ·) := by
 have h := List.pairwise_mergeSort (le := fun a b : Int => decide (a ≤ b)) (fun a b c h1 h2 => by simp at *; omega) (fun a b => by simp; omega) xs
 exact List.Pairwise.imp (fun h => by simpa using h) h
theorem sorted_unique : ∀ {xs ys : List Int}, xs.Perm ys → xs.Pairwise (· ≤ ·) → ys.Pairwise (· ≤ ·) → xs = ys
 | [], ys, p, _, _ => (List.Perm.nil_eq p)
 | x :: xs, [], p, _, _ => absurd p.length_eq (by simp)
 | x :: xs, y :: ys, p, h1, h2 => by
   have hx := List.pairwise_cons.mp h1
   have hy := List.pairwise_cons.mp h2
   have e : x = y := by
     have a1 : y ∈ x :: xs := p.mem_iff.mpr (List.mem_cons_self ..)
     have a2 : x ∈ y :: ys := p.mem_iff.mp (List.mem_cons_self ..)
     rcases List.mem_cons.mp a1 with r | r
     · exact r.symm
     · rcases List.mem_cons.mp a2 with q | q
       · exact q
       · have := hx.1 y r
         have := hy.1 x q
         omega
   subst e
   rw [sorted_unique (List.Perm.cons_inv p) hx.2 hy.2]
theorem w_sortedL {xs : List Int} (r : (yLst yInt).rep K H F v xs) (k : ∀ p H', H p = none → Chg [] H H' → (yLst yInt).rep K H' [p] (.ref p) (Mi.sortI xs) → Q (.ref p) H') : rSortedI K [v] H Q := by
 obtain ⟨p, rfl, s⟩ := ints_sqL r
 refine ⟨p, xs, rfl, s, fun ns q pm so nq => ?_⟩
 rw [sorted_unique (pm.trans (sortI_perm xs).symm) so (sortI_sorted xs)]
 exact k q _ nq (Chg.lay nq trivial) ⟨q, _, rfl, rfl, upd_same, ints_mk _⟩
end
end G
namespace G
open PySem PySem.Spec PyProof.Rows L2
def Sub (F G : List Addr) : Prop := ∀ b ∈ F, b ∈ G
def yLsg {α : Type} (τ : Ty α) : Ty (List α) where
 rep K H F v xs := ∃ a vs G, v = .ref a ∧ F = a :: G ∧ a ∉ G ∧ H a = some (.lst vs) ∧ (∀ b ∈ G, ∃ o, H b = some o ∧ ¬ Froz o) ∧ Paired (fun u x => ∃ Fi, τ.rep K H Fi u x ∧ Sub Fi G) vs xs
 keep {K H H' F v xs} h k := by
   obtain ⟨a, vs, G, e, rfl, na, g, dm, r⟩ := h
   refine ⟨a, vs, G, e, rfl, na, k a _ g (.inl (List.mem_cons_self ..)), fun b hb => ?_, Paired.mapP r fun u x q => ?_⟩
   · obtain ⟨o, ho, hf⟩ := dm b hb
     exact ⟨o, k b o ho (.inl (List.mem_cons_of_mem _ hb)), hf⟩
   · obtain ⟨Fi, ru, sb⟩ := q
     exact ⟨Fi, τ.keep ru fun b o hb z => k b o hb (z.imp (fun y => List.mem_cons_of_mem _ (sb b y)) id), sb⟩
 dom {K H F v xs} h b m := by
   obtain ⟨a, vs, G, e, rfl, na, g, dm, r⟩ := h
   rcases List.mem_cons.mp m with rfl | m
   · exact ⟨_, g, fun z => z⟩
   · exact dm b m
section
variable {K : PySem.W.Frag} {σ σ' : L2.St} {H : Hp} {F F1 F2 Fu : List Addr} {ta tb te : TE} {v u x y : V} {i j : Int} {t tu tt : TT} {b c a : Bool} {α β : Type} {τ : Ty α} {υ : Ty β} {Q : VK} {D : Ends} {t1 t2 : TS} {g : TG} {ws : List Nat}
theorem lsg_sq {xs : List α} (r : (yLsg τ).rep K H F v xs) : ∃ a vs, v = .ref a ∧ a ∈ F ∧ SqL K H a vs ∧ Paired (fun u x => ∃ Fi, τ.rep K H Fi u x ∧ Sub Fi F ∧ a ∉ Fi) vs xs := by
 obtain ⟨a, vs, G, e, rfl, na, g, dm, q⟩ := r
 exact ⟨a, vs, e, List.mem_cons_self .., .inl (.inl g), Paired.mapP q fun u x z => by
   obtain ⟨Fi, ru, sb⟩ := z
   exact ⟨Fi, ru, fun b hb => List.mem_cons_of_mem _ (sb b hb), fun hb => na (sb a hb)⟩⟩
theorem val_lenG {xs : List α} (r : (yLsg τ).rep K H F v xs) (ha : Val ta σ H v) : Val (tCB (rLenQ K) (tCons ta tNil)) σ H (.int (xs.length : Int)) := by
 obtain ⟨a, vs, e, _, s, q⟩ := lsg_sq r
 subst e
 exact fun Q k => ha _ ⟨a, vs, rfl, .inl s, by rw [pr_len q]; exact k⟩
theorem itm_G {xs : List α} {x : α} (r : (yLsg τ).rep K H F v xs) (h : Mi.at_ xs i = some x) :
   ∃ u Fi, τ.rep K H Fi u x ∧ Sub Fi F ∧ (∀ p, v = .ref p → p ∉ Fi) ∧ (∀ {Q : VK}, Q u H → rIxL K v (.int i) H Q) ∧ ∀ {σ : L2.St} {ta tb : TE}, Val ta σ H v → Val tb σ H (.int i) → Val (tOp (rIxL K) ta tb) σ H u := by
 obtain ⟨a, vs, e, _, s, q⟩ := lsg_sq r
 subst e
 obtain ⟨u, e, Fi, ru, sb, na⟩ := pr_at q h
 have k : ∀ {Q : VK}, Q u H → rIxL K (.ref a) (.int i) H Q := fun k => ⟨a, vs, i, u, rfl, rfl, s, e, k⟩
 exact ⟨u, Fi, ru, sb, fun p hp => by obtain rfl := V.ref.inj hp; exact na, k, fun ha hb => val_op ha hb fun Q q => k q⟩
theorem e_lsg {vs : List V} {xs : List α} {G : List Addr} (z : vs.length ≤ Mi.big) (dm : ∀ b ∈ G, ∃ o, H b = some o ∧ ¬ Froz o) (r : Paired (fun u x => ∃ Fi, τ.rep K H Fi u x ∧ Sub Fi G) vs xs)
   (k : ∀ p H', H p = none → Chg [] H H' → (yLsg τ).rep K H' (p :: G) (.ref p) xs → Q (.ref p) H') : LstG vs H Q := by
 refine ⟨sz z, fun p np => k p _ np (Chg.lay np trivial) ⟨p, vs, G, rfl, rfl, fun hp => ?_, upd_same, fun b hb => ?_, Paired.mapP r fun u x q => ?_⟩⟩
 · obtain ⟨o, ho, _⟩ := dm p hp
   rw [np] at ho; cases ho
 · obtain ⟨o, ho, hf⟩ := dm b hb
   exact ⟨o, by rw [upd_ne (ne_of_none ho np)]; exact ho, hf⟩
 · obtain ⟨Fi, ru, sb⟩ := q
   exact ⟨Fi, Ty.ex ru (Chg.lay np trivial), sb⟩
theorem Ty.dm {d : α} (r : τ.rep K H F v d) : ∀ b ∈ F, ∃ o, H b = some o ∧ ¬ Froz o := τ.dom r
theorem dm_app (d1 : ∀ b ∈ F1, ∃ o, H b = some o ∧ ¬ Froz o) (d2 : ∀ b ∈ F2, ∃ o, H b = some o ∧ ¬ Froz o) : ∀ b ∈ F1 ++ F2, ∃ o, H b = some o ∧ ¬ Froz o := fun b h => (List.mem_append.mp h).elim (d1 b) (d2 b)
theorem m_appG {xs ys : List α} {d : α} (r : (yLsg τ).rep K H F v xs) (ru : τ.rep K H Fu u d) (ap : ∀ p, v = .ref p → p ∉ Fu) (hm : Mi.app xs d = some ys)
   (k : ∀ H' F', Chg F H H' → (yLsg τ).rep K H' F' v ys → Sub F F' → Sub F' (F ++ Fu) → Q .non H') : rAppend v [u] H Q := by
 obtain ⟨p, vs, G, rfl, rfl, na, g, dm, q⟩ := r
 have np : p ∉ Fu := ap p rfl
 unfold Mi.app at hm
 split at hm
 · rename_i hz
   cases hm
   have c : Chg [p] H (upd H p (.lst (vs ++ [u]))) := Chg.wr g (fun z => z)
   have kp : ∀ {γ : Type} {ρ : Ty γ} {Fi : List Addr} {w : V} {e : γ}, ρ.rep K H Fi w e → p ∉ Fi → ρ.rep K (upd H p (.lst (vs ++ [u]))) Fi w e := fun rr hn => Ty.chg rr c fun b hb z => by
     rw [List.mem_singleton] at z; subst z; exact hn hb
   refine ⟨p, vs, u, rfl, rfl, g, Nat.lt_of_lt_of_le (by rw [pr_len q]; exact hz) line_big, k _ (p :: (G ++ Fu)) (c.mono fun b hb => by rw [List.mem_singleton] at hb; subst hb; exact List.mem_cons_self ..) ⟨p, _, G ++ Fu, rfl, rfl, ?_, upd_same, ?_, ?_⟩ ?_ ?_⟩
   · intro hp
     exact (List.mem_append.mp hp).elim na np
   · intro b hb
     have hbp : b ≠ p := fun e => by subst e; exact (List.mem_append.mp hb).elim na np
     obtain ⟨o, ho, hf⟩ := dm_app dm (Ty.dm ru) b hb
     exact ⟨o, by rw [upd_ne hbp]; exact ho, hf⟩
   · refine pr_app (Paired.mapP q fun w e z => ?_) (.cons ⟨Fu, kp ru np, fun b hb => List.mem_append_right _ hb⟩ .nil)
     obtain ⟨Fi, rr, sb⟩ := z
     exact ⟨Fi, kp rr fun hp => na (sb p hp), fun b hb => List.mem_append_left _ (sb b hb)⟩
   · intro b hb
     rcases List.mem_cons.mp hb with rfl | hb
     · exact List.mem_cons_self ..
     · exact List.mem_cons_of_mem _ (List.mem_append_left _ hb)
   · intro b hb
     rcases List.mem_cons.mp hb with rfl | hb
     · exact List.mem_append_left _ (List.mem_cons_self ..)
     · rcases List.mem_append.mp hb with hb | hb
       · exact List.mem_append_left _ (List.mem_cons_of_mem _ hb)
       · exact List.mem_append_right _ hb
 · cases hm
theorem Dj.ap {p : Addr} (d : Dj F Fu) (hp : p ∈ F) : p ∉ Fu := d p hp
theorem ap_of {xs : List α} (r : (yLsg τ).rep K H F v xs) (d : Dj F Fu) : ∀ p, v = .ref p → p ∉ Fu := fun p e => by
 obtain ⟨a, vs, G, e2, rfl, _⟩ := r
 rw [e] at e2
 obtain rfl := V.ref.inj e2
 exact d p (List.mem_cons_self ..)
theorem Dj.grow {G' : List Addr} (d : Dj F1 F) (d2 : Dj F1 Fu) (s : Sub G' (F ++ Fu)) : Dj F1 G' := fun b hb z => (List.mem_append.mp (s b z)).elim (d b hb) (d2 b hb)
theorem fresh_grow {H0 : Hp} {G' : List Addr} (n1 : ∀ a ∈ F, H0 a = none) (n2 : ∀ a ∈ Fu, H0 a = none) (s : Sub G' (F ++ Fu)) : ∀ a ∈ G', H0 a = none := fun b hb => (List.mem_append.mp (s b hb)).elim (n1 b) (n2 b)
theorem fresh_cons {H0 : Hp} {p : Addr} (n1 : H0 p = none) (n2 : ∀ a ∈ F, H0 a = none) : ∀ a ∈ p :: F, H0 a = none := fun b hb => by
 rcases List.mem_cons.mp hb with rfl | hb
 · exact n1
 · exact n2 b hb
theorem Dj.consR {p : Addr} (d1 : Dj F [p]) (d2 : Dj F F2) : Dj F (p :: F2) := fun b hb z => by
 rcases List.mem_cons.mp z with rfl | z
 · exact d1 b hb (List.mem_singleton.mpr rfl)
 · exact d2 b hb z
theorem l_lsg {g : TG} {tb : TS} {nx : L2.St → Hp → Prop} {xs : List α} (r : (yLsg τ).rep K H F v xs) (Pv : Nat → L2.St → Hp → Prop) (h0 : Pv 0 σ H) (hl : ∀ i σ' H', Pv i σ' H' → (yLsg τ).rep K H' F v xs)
   (hs : ∀ (i : Nat) (x : α) (u : V) (Fi : List Addr) σ' H', xs[i]? = some x → τ.rep K H' Fi u x → Sub Fi F → Pv i σ' H' → g u σ' H' fun σ2 H2 => tb { D with nx := Pv (i + 1), ct := Pv (i + 1), bk := nx } σ2 H2) (hd : ∀ σ' H', Pv xs.length σ' H' → nx σ' H') :
   ∃ a, v = .ref a ∧ (∃ xs, SqL K H a xs) ∧ LoopG (Itl K a) g tb D nx σ H := by
 obtain ⟨a, vs, e, _, s, q⟩ := lsg_sq r
 refine ⟨a, e, ⟨vs, s⟩, fun i m σ' H' => m = xs.length - i ∧ i ≤ xs.length ∧ Pv i σ' H', ⟨xs.length, by omega, Nat.zero_le _, h0⟩, ?_⟩
 rintro i m σ' H' ⟨rfl, hi, p⟩
 obtain ⟨a', vs', e', _, s', q'⟩ := lsg_sq (hl i σ' H' p)
 obtain rfl : a = a' := by rw [e] at e'; exact V.ref.inj e'
 by_cases hlt : i < xs.length
 · obtain ⟨u, hu, Fi, ru, sb, _⟩ := pr_get q' (List.getElem?_eq_getElem hlt)
   refine .inr ⟨⟨vs', u, s', hu⟩, Pv (i + 1), fun σ2 H2 p' => ⟨xs.length - (i + 1), by omega, rfl, hlt, p'⟩, fun x H2 y => ?_⟩
   obtain ⟨rfl, y⟩ := y
   obtain rfl : x = u := Option.some.inj ((y _ s').symm.trans hu)
   exact hs i _ _ Fi σ' _ (List.getElem?_eq_getElem hlt) ru sb p
 · obtain rfl : i = xs.length := by omega
   exact .inl ⟨⟨vs', s', by rw [pr_len q']; exact Nat.le_refl _⟩, hd σ' H' p⟩
theorem kc_lsg {xs : List β} (r : (yLsg υ).rep K H F v xs) (Pv : Addr → Nat → Hp → Prop) (h0 : ∀ D H', H D = none → Chg [] H H' → (yLst τ).rep K H' [D] (.ref D) [] → Pv D 0 H') (hl : ∀ D i H', Pv D i H' → (yLsg υ).rep K H' F v xs)
   (hs : ∀ D (i : Nat) (x : β) (u : V) (Fi : List Addr) H', xs[i]? = some x → υ.rep K H' Fi u x → Sub Fi F → Pv D i H' → TurnG g tt te ws σ D (Pv D (i + 1)) u H') (hd : ∀ D H', H D = none → Pv D xs.length H' → Q (.ref D) H') :
   ∃ a, v = .ref a ∧ (∃ xs, SqL K H a xs) ∧ CompG (Itl K a) g tt te ws σ H Q := by
 obtain ⟨a, vs, e, _, s, q⟩ := lsg_sq r
 refine ⟨a, e, ⟨vs, s⟩, comp_by (K := K) (τ := τ) xs.length Pv h0 (fun D i H' hi p => ?_) (fun D H' hD p => ?_)⟩
 · obtain ⟨a', vs', e', _, s', q'⟩ := lsg_sq (hl D i H' p)
   obtain rfl : a = a' := by rw [e] at e'; exact V.ref.inj e'
   obtain ⟨u, hu, Fi, ru, sb, _⟩ := pr_get q' (List.getElem?_eq_getElem hi)
   refine ⟨⟨vs', u, s', hu⟩, fun x H2 y => ?_⟩
   obtain ⟨rfl, y⟩ := y
   obtain rfl : x = u := Option.some.inj ((y _ s').symm.trans hu)
   exact hs D i _ _ Fi _ (List.getElem?_eq_getElem hi) ru sb p
 · obtain ⟨a', vs', e', _, s', q'⟩ := lsg_sq (hl D _ H' p)
   obtain rfl : a = a' := by rw [e] at e'; exact V.ref.inj e'
   exact ⟨⟨vs', s', by rw [pr_len q']; exact Nat.le_refl _⟩, hd D H' hD p⟩
end
structure Dat {α : Type} (τ : Ty α) (n : Nat) where
 f : α → PyData
 dec : DecidableEq α
 dp : ∀ {K : PySem.W.Frag} {H : Hp} {F : List Addr} {v : V} {d : α}, τ.rep K H F v d → Dp K H v (f d)
 lay : ∀ d, (f d).canLay0 = true
 dpt : ∀ d, (f d).depth ≤ n
 eqv : ∀ d e, PyData.eqv (f d) (f e) = decide (d = e)
theorem beq_dec {α : Type} [DecidableEq α] [BEq α] [LawfulBEq α] (a b : α) : (a == b) = decide (a = b) := by
 by_cases h : a = b
 · subst h; simp
 · rw [decide_eq_false h]; simpa using h
def dat_int : Dat yInt 0 where
 f := .int
 dec := inferInstance
 dp := fun h => by obtain ⟨_, rfl⟩ := h; exact .int _
 lay := fun d => by simp [PyData.canLay0]
 dpt := fun d => by simp [PyData.depth]
 eqv := fun d e => by simp only [PyData.eqv]; exact beq_dec d e
section
variable {α β : Type} {τ : Ty α} {n m : Nat}
theorem dpAll {K : PySem.W.Frag} {H : Hp} {R : V → α → Prop} {f : α → PyData} (h : ∀ u x, R u x → Dp K H u (f x)) : ∀ {vs : List V} {xs : List α}, Paired R vs xs → DpAll K H vs (xs.map f)
 | _, _, .nil => .nil
 | _, _, .cons r t => .cons (h _ _ r) (dpAll h t)
theorem layAll {f : α → PyData} (h : ∀ d, (f d).canLay0 = true) : ∀ xs : List α, PyData.canLayAll0 (xs.map f) = true
 | [] => by simp [PyData.canLayAll0]
 | x :: xs => by simp [PyData.canLayAll0, h x, layAll h xs]
theorem dptAll {f : α → PyData} (h : ∀ d, (f d).depth ≤ n) : ∀ xs : List α, PyData.depthAll (xs.map f) ≤ n
 | [] => by simp [PyData.depthAll]
 | x :: xs => by
   simp only [List.map_cons, PyData.depthAll]
   exact Nat.max_le.mpr ⟨h x, dptAll h xs⟩
theorem eqvAllL [DecidableEq α] {f : α → PyData} (h : ∀ d e, PyData.eqv (f d) (f e) = decide (d = e)) : ∀ xs ys : List α, PyData.eqvAll (xs.map f) (ys.map f) = decide (xs = ys)
 | [], [] => by simp [PyData.eqvAll]
 | [], y :: ys => by simp [PyData.eqvAll]
 | x :: xs, [] => by simp [PyData.eqvAll]
 | x :: xs, y :: ys => by
   simp only [List.map_cons, PyData.eqvAll, h x y, eqvAllL h xs ys]
   by_cases h1 : x = y
   · by_cases h2 : xs = ys
     · simp [h1, h2]
     · simp [h2]
   · simp [h1]
def dat_lst (d : Dat τ n) : Dat (yLst τ) (n + 1) where
 f := fun xs => .list (xs.map d.f)
 dec := @instDecidableEqList _ d.dec
 dp := fun h => by
   obtain ⟨a, vs, rfl, s, q⟩ := lst_sq h
   exact .lst s (dpAll (fun u x z => d.dp z) q)
 lay := fun xs => by simp only [PyData.canLay0]; exact layAll d.lay xs
 dpt := fun xs => by simp only [PyData.depth]; exact Nat.succ_le_succ (dptAll d.dpt xs)
 eqv := fun xs ys => by simp only [PyData.eqv]; exact @eqvAllL _ d.dec _ d.eqv xs ys
end
structure Sat {α : Type} (ts : Tys α) (n : Nat) where
 f : α → List PyData
 dec : DecidableEq α
 dp : ∀ {K : PySem.W.Frag} {H : Hp} {F : List Addr} {vs : List V} {d : α}, ts.rep K H F vs d → DpAll K H vs (f d)
 lay : ∀ d, PyData.canLayAll0 (f d) = true
 dpt : ∀ d, PyData.depthAll (f d) ≤ n
 eqv : ∀ d e, PyData.eqvAll (f d) (f e) = decide (d = e)
section
variable {α β : Type} {τ : Ty α} {ts : Tys β} {n m : Nat}
def sat_one (d : Dat τ n) : Sat (sOne τ) n where
 f := fun x => [d.f x]
 dec := d.dec
 dp := fun h => by obtain ⟨v, rfl, r⟩ := h; exact .cons (d.dp r) .nil
 lay := fun x => by simp [PyData.canLayAll0, d.lay x]
 dpt := fun x => by simp only [PyData.depthAll]; exact Nat.max_le.mpr ⟨d.dpt x, Nat.zero_le _⟩
 eqv := fun x y => by simp [PyData.eqvAll, d.eqv x y]
def sat_cons (d : Dat τ n) (s : Sat ts m) : Sat (sCons τ ts) (max n m) where
 f := fun x => d.f x.1 :: s.f x.2
 dec := @instDecidableEqProd _ _ d.dec s.dec
 dp := fun h => by obtain ⟨v, ws, F1, F2, rfl, _, r, q⟩ := h; exact .cons (d.dp r) (s.dp q)
 lay := fun x => by simp [PyData.canLayAll0, d.lay x.1, s.lay x.2]
 dpt := fun x => by
   simp only [PyData.depthAll]
   have h1 := d.dpt x.1
   have h2 := s.dpt x.2
   omega
 eqv := fun x y => by
   obtain ⟨x1, x2⟩ := x
   obtain ⟨y1, y2⟩ := y
   letI := d.dec
   letI := s.dec
   simp only [PyData.eqvAll, d.eqv x1 y1, s.eqv x2 y2]
   by_cases h1 : x1 = y1
   · by_cases h2 : x2 = y2
     · subst h1 h2; simp
     · have : ¬ ((x1, x2) = (y1, y2)) := fun e => h2 (Prod.mk.inj e).2
       simp only [h2, decide_false, Bool.and_false]
       exact (decide_eq_false this).symm
   · have : ¬ ((x1, x2) = (y1, y2)) := fun e => h1 (Prod.mk.inj e).1
     simp only [h1, decide_false, Bool.false_and]
     exact (decide_eq_false this).symm
def dat_tup (s : Sat ts m) : Dat (yTup ts) (m + 1) where
 f := fun x => .tuple (s.f x)
 dec := s.dec
 dp := fun h => by obtain ⟨a, vs, rfl, sq, q⟩ := h; exact .tup sq (s.dp q)
 lay := fun x => by simp only [PyData.canLay0]; exact s.lay x
 dpt := fun x => by simp only [PyData.depth]; exact Nat.succ_le_succ (s.dpt x)
 eqv := fun x y => by simp only [PyData.eqv]; exact s.eqv x y
end
section
variable {X : Cx} {K : PySem.W.Frag} {H : Hp} {F1 F2 : List Addr} {v u : V} {α : Type} {τ : Ty α} {Q : VK} {n : Nat} {x y : α}
theorem op_ne_d {K : PySem.W.Frag} (hu : X.A.units + 64 < cLine) (e : X.K = K := by rfl) : OpR X (compareOp .NotEq) (rNeD K) := by subst e; exact op_neD hu
theorem Dat.shaped (d : Dat τ n) (hn : n ≤ 64) (x : α) : SeqAt.shaped (d.f x) = true := by
 unfold SeqAt.shaped
 rw [d.lay x, decide_eq_true (Nat.le_trans (d.dpt x) hn)]
 rfl
theorem w_neD [i : DecidableEq α] (d : Dat τ n) (r : τ.rep K H F1 v x) (q : τ.rep K H F2 u y) (k : Q (.bl (!decide (x = y))) H) (hn : n ≤ 64 := by decide) : rNeD K v u H Q :=
 ⟨_, _, d.dp r, d.dp q, d.shaped hn x, d.shaped hn y, by
   have e : @decide (x = y) (d.dec x y) = @decide (x = y) (i x y) := by congr
   rw [d.eqv, e]; exact k⟩
end
end G
namespace G
open PySem PySem.Spec PyProof.Rows L2
section
variable {K : PySem.W.Frag} {σ σ' : L2.St} {H : Hp} {F F1 F2 Fu : List Addr} {ta tb te : TE} {v u x y : V} {i j : Int} {α β : Type} {τ : Ty α} {υ : Ty β} {Q : VK} {D : Ends} {t1 t2 : TS} {g : TG} {ws : List Nat}
theorem lsg_nil {p : Addr} {υ : Ty β} (r : (yLst υ).rep K H [p] (.ref p) []) : (yLsg τ).rep K H [p] (.ref p) [] := by
 obtain ⟨a, vs, e, f, g, q⟩ := r
 obtain rfl := V.ref.inj e
 cases q
 exact ⟨p, [], [], rfl, rfl, List.not_mem_nil, g, fun b h => absurd h List.not_mem_nil, Paired.nil⟩
theorem e_appG {D : Addr} {N : Hp → Prop} {xs ys : List α} {d : α} (r : (yLsg τ).rep K H F (.ref D) xs) (ru : τ.rep K H Fu u d) (ap : ∀ p, V.ref D = .ref p → p ∉ Fu) (hm : Mi.app xs d = some ys)
   (k : ∀ H' F', Chg F H H' → (yLsg τ).rep K H' F' (.ref D) ys → Sub F F' → Sub F' (F ++ Fu) → N H') : AppG D N u H := by
 have h := m_appG (Q := fun _ H' => N H') r ru ap hm k
 obtain ⟨l, xs', y, e, e2, g, hz, q⟩ := h
 obtain rfl := V.ref.inj e
 obtain rfl : u = y := by simpa using e2
 exact ⟨xs', g, hz, q⟩
theorem enumF_at {α : Type} : ∀ (k : Int) (xs : List α) (i : Nat) {x : α}, xs[i]? = some x → (Mi.enumF k xs)[i]? = some (k + i, x)
 | _, [], _, _, h => by simp at h
 | k, y :: ys, 0, x, h => by
   obtain rfl : y = x := by simpa using h
   show some (k, y) = some (k + ((0 : Nat) : Int), y)
   rw [show k + ((0 : Nat) : Int) = k by omega]
 | k, y :: ys, i + 1, x, h => by
   show (Mi.enumF (k + 1) ys)[i]? = _
   rw [enumF_at (k + 1) ys i (by simpa using h)]
   congr 2
   omega
theorem enumF_len {α : Type} : ∀ (k : Int) (xs : List α), (Mi.enumF k xs).length = xs.length
 | _, [] => rfl
 | k, _ :: ys => by show (Mi.enumF (k + 1) ys).length + 1 = ys.length + 1; rw [enumF_len]
theorem w_iEnum {ts : TA} {R : It → Hp → Prop} (h : ts σ H fun vs H1 => ∃ a xs, vs = [.ref a] ∧ SqL K H1 a xs ∧ R (Ite K a) H1) : iEnum K ts σ H R := h
theorem l_enum {tb : TS} {nx : L2.St → Hp → Prop} {xs : List α} {i1 i2 : Nat} (r : (yLst τ).rep K H F v xs) (Pv : Nat → L2.St → Hp → Prop) (h0 : Pv 0 σ H) (hl : ∀ i σ' H', Pv i σ' H' → (yLst τ).rep K H' F v xs)
   (hs : ∀ (i : Nat) (x : Int × α) (u : V) σ' H' H2, (Mi.enumF 0 xs)[i]? = some x → Chg [] H' H2 → τ.rep K H2 [] u x.2 → Pv i σ' H' → tb { D with nx := Pv (i + 1), ct := Pv (i + 1), bk := nx } ((σ'.set i1 (some (.int x.1))).set i2 (some u)) H2) (hd : ∀ σ' H', Pv (Mi.enumF 0 xs).length σ' H' → nx σ' H') :
   ∃ a xs, [v] = [.ref a] ∧ SqL K H a xs ∧ LoopG (Ite K a) (gTup K 2 (gCons (gName i1) (gCons (gName i2) gNil))) tb D nx σ H := by
 obtain ⟨a, vs, rfl, s, q⟩ := lst_sq r
 refine ⟨a, vs, rfl, s, fun i m σ' H' => m = xs.length - i ∧ i ≤ xs.length ∧ Pv i σ' H', ⟨xs.length, by omega, Nat.zero_le _, h0⟩, ?_⟩
 rintro i m σ' H' ⟨rfl, hi, p⟩
 obtain ⟨a', vs', e', s', q'⟩ := lst_sq (hl i σ' H' p)
 obtain rfl := V.ref.inj e'
 by_cases hlt : i < xs.length
 · obtain ⟨u, hu, ru⟩ := pr_get q' (List.getElem?_eq_getElem hlt)
   refine .inr ⟨⟨vs', u, s', hu⟩, Pv (i + 1), fun σ2 H2 p' => ⟨xs.length - (i + 1), by omega, rfl, hlt, p'⟩, fun x H2 y => ?_⟩
   obtain ⟨T, w, rfl, nT, rfl, y⟩ := y
   obtain rfl : w = u := Option.some.inj ((y _ s').symm.trans hu)
   have hx := enumF_at 0 xs i (List.getElem?_eq_getElem hlt)
   have c : Chg [] H' (upd H' T (.tup [.int (i : Nat), w])) := Chg.lay nT trivial
   have h := hs i _ w σ' H' _ hx c (Ty.ex ru c) p
   have e0 : (0 : Int) + (i : Int) = (i : Int) := Int.zero_add _
   rw [e0] at h
   exact ⟨T, _, rfl, .inl (.inl upd_same), rfl, _, _, rfl, _, _, rfl, rfl, h⟩
 · obtain rfl : i = xs.length := by omega
   exact .inl ⟨⟨vs', s', by rw [pr_len q']; exact Nat.le_refl _⟩, hd σ' H' (by rw [enumF_len]; exact p)⟩
end
end G
namespace G
end G
namespace PySem
open Sem (wp)
section
variable {prog : Program} {w : World} {A : Around} {E : Value → Shared → Prop} {s : Shared}
end
end PySem
namespace L2
open PySem PySem.Spec PyProof.Rows
end L2
namespace G
open PySem PySem.Spec PyProof.Rows L2
section
variable {K : PySem.W.Frag} {σ σ' : L2.St} {H : Hp} {F F1 F2 Fu : List Addr} {ta tb te : TE} {v u x y : V} {i j : Int} {α β : Type} {τ : Ty α} {υ : Ty β} {Q : VK} {D : Ends} {t1 t2 : TS} {g : TG} {ws : List Nat}
end
end G
namespace G
open PySem PySem.Spec PyProof.Rows L2
section
variable {K : PySem.W.Frag} {σ σ' : L2.St} {H : Hp} {F F1 F2 Fu : List Addr} {ta tb te : TE} {v u x y : V} {i j : Int} {α β : Type} {τ : Ty α} {υ : Ty β} {Q : VK} {D : Ends} {t1 t2 : TS} {g : TG} {ws : List Nat}
theorem st_eq {t : TS} (e : σ = σ') (h : t D σ' H) : t D σ H := e ▸ h
end
end G
namespace G
open PySem PySem.Spec PyProof.Rows L2
theorem pe_fldk {X : Cx} {K : PySem.W.Frag} {e : Expr} {f : Str} {pos : Pos} {ta : TE} (he : PE X e ta) (hb : attributeBase e f X.env (eval e X.env) = eval e X.env) (hk : X.K = K := by rfl) : PE X (.Attribute e f pos) (tFld K ta f) := by
 subst hk; exact pe_fld he hb
end G
namespace G
open PySem PySem.Spec PyProof.Rows L2
theorem toS_tl (l : List Nat) : (toS l).cps.toList = l := by simp [toS]
theorem toS_inj {a b : List Nat} (h : toS a = toS b) : a = b := by rw [← toS_tl a, h, toS_tl]
theorem dTx {a b : List Nat} : decide (V.str (toS a) = V.str (toS b)) = decide (a = b) := by
 by_cases h : a = b
 · subst h; simp
 · rw [decide_eq_false h, decide_eq_false]
   intro z
   exact h (toS_inj (V.str.inj z))
theorem bigS {n : Nat} (h : n ≤ Mi.big) : n ≤ sizeLine := Nat.le_trans h (by decide)
section
variable {X : Cx} {K : PySem.W.Frag} {σ σ' : L2.St} {H : Hp} {F F1 F2 Fu : List Addr} {ta tb te to : TE} {v u x y : V} {i j : Int} {α β : Type} {τ : Ty α} {υ : Ty β} {Q : VK} {D : Ends} {g : TG} {ws : List Nat} {a b c : List Nat} {t tu tt : TT}
theorem val_cS {s : Str} (h : s = toS a) : Val (tC (.str s)) σ H (.str (toS a)) := by subst h; exact val_c
theorem val_eqS (ha : Val ta σ H (.str (toS a))) (hb : Val tb σ H (.str (toS b))) : Val (tOp rEq ta tb) σ H (.bl (decide (a = b))) := val_op ha hb fun Q q => ⟨rfl, by rw [dTx]; exact q⟩
theorem val_neS (ha : Val ta σ H (.str (toS a))) (hb : Val tb σ H (.str (toS b))) : Val (tOp rNe ta tb) σ H (.bl (!decide (a = b))) := val_op ha hb fun Q q => ⟨rfl, by rw [dTx]; exact q⟩
theorem val_intB {b : Bool} (ha : Val ta σ H (.bl b)) : Val (tCB rInt1 (tCons ta tNil)) σ H (.int (Mi.bI b)) := fun Q q => ha _ (.inr ⟨b, rfl, by cases b <;> exact q⟩)
theorem val_isiO {n m : String} {b : Bool} {d : Option α} (ty : ∀ {F x}, τ.rep K H F v x → TyX K H v (.type n)) (r : (yOpt τ).rep K H F v d) (ha : Val ta σ H v) (h1 : kitB n m = some b) (h2 : kitB "NoneType" m = some false) : Val (tCB (rIsi K) (tCons ta (tCons (tC (.ty m)) tNil))) σ H (.bl (d.isSome && b)) := by
 cases d with
 | none =>
   obtain ⟨_, rfl⟩ := r
   exact val_isi ha ty_non h2
 | some x =>
   have := val_isi ha (ty r.2) h1
   rw [show ((some x).isSome && b) = b by cases b <;> rfl]
   exact this
theorem tyr_int {x : Int} (r : yInt.rep K H F v x) : TyX K H v (.type "int") := by obtain ⟨_, rfl⟩ := r; exact ty_int
end
structure DatO {α : Type} (τ : Ty α) (n : Nat) where
 f : α → PyData
 ok : α → Bool
 dec : DecidableEq α
 dp : ∀ {K : PySem.W.Frag} {H : Hp} {F : List Addr} {v : V} {d : α}, τ.rep K H F v d → Dp K H v (f d)
 lay : ∀ d, ok d = true → (f d).canLay0 = true
 dpt : ∀ d, (f d).depth ≤ n
 eqv : ∀ d e, PyData.eqv (f d) (f e) = decide (d = e)
def Dat.o {α : Type} {τ : Ty α} {n : Nat} (d : Dat τ n) : DatO τ n := ⟨d.f, fun _ => true, d.dec, d.dp, fun x _ => d.lay x, d.dpt, d.eqv⟩
def dao_str : DatO yStr 0 where
 f := fun l => .str (toS l)
 ok := Mi.okS
 dec := inferInstance
 dp := fun h => by obtain ⟨_, rfl⟩ := h; exact .str _
 lay := fun d h => by
   have e : (toS d).cps = d.toArray := rfl
   simp only [PyData.canLay0, PyData.strOk, e]
   unfold Mi.okS at h
   simpa using h
 dpt := fun d => by simp [PyData.depth]
 eqv := fun d e => by
   simp only [PyData.eqv]
   rw [beq_dec]
   by_cases h : d = e
   · subst h; simp
   · rw [decide_eq_false h, decide_eq_false]
     intro z; exact h (toS_inj z)
section
variable {α β : Type} {τ : Ty α} {n m : Nat}
theorem layAllO {f : α → PyData} {ok : α → Bool} (h : ∀ d, ok d = true → (f d).canLay0 = true) : ∀ xs : List α, xs.all ok = true → PyData.canLayAll0 (xs.map f) = true
 | [], _ => by simp [PyData.canLayAll0]
 | x :: xs, q => by
   rw [List.all_cons, Bool.and_eq_true] at q
   simp [PyData.canLayAll0, h x q.1, layAllO h xs q.2]
def dao_lst (d : DatO τ n) : DatO (yLst τ) (n + 1) where
 f := fun xs => .list (xs.map d.f)
 ok := fun xs => xs.all d.ok
 dec := @instDecidableEqList _ d.dec
 dp := fun h => by
   obtain ⟨a, vs, rfl, s, q⟩ := lst_sq h
   exact .lst s (dpAll (fun u x z => d.dp z) q)
 lay := fun xs h => by simp only [PyData.canLay0]; exact layAllO d.lay xs h
 dpt := fun xs => by simp only [PyData.depth]; exact Nat.succ_le_succ (dptAll d.dpt xs)
 eqv := fun xs ys => by simp only [PyData.eqv]; exact @eqvAllL _ d.dec _ d.eqv xs ys
end
structure SatO {α : Type} (ts : Tys α) (n : Nat) where
 f : α → List PyData
 ok : α → Bool
 dec : DecidableEq α
 dp : ∀ {K : PySem.W.Frag} {H : Hp} {F : List Addr} {vs : List V} {d : α}, ts.rep K H F vs d → DpAll K H vs (f d)
 lay : ∀ d, ok d = true → PyData.canLayAll0 (f d) = true
 dpt : ∀ d, PyData.depthAll (f d) ≤ n
 eqv : ∀ d e, PyData.eqvAll (f d) (f e) = decide (d = e)
section
variable {α β : Type} {τ : Ty α} {ts : Tys β} {n m : Nat}
def sao_one (d : DatO τ n) : SatO (sOne τ) n where
 f := fun x => [d.f x]
 ok := d.ok
 dec := d.dec
 dp := fun h => by obtain ⟨v, rfl, r⟩ := h; exact .cons (d.dp r) .nil
 lay := fun x h => by simp [PyData.canLayAll0, d.lay x h]
 dpt := fun x => by simp only [PyData.depthAll]; exact Nat.max_le.mpr ⟨d.dpt x, Nat.zero_le _⟩
 eqv := fun x y => by simp [PyData.eqvAll, d.eqv x y]
def sao_cons (d : DatO τ n) (s : SatO ts m) : SatO (sCons τ ts) (max n m) where
 f := fun x => d.f x.1 :: s.f x.2
 ok := fun x => d.ok x.1 && s.ok x.2
 dec := @instDecidableEqProd _ _ d.dec s.dec
 dp := fun h => by obtain ⟨v, ws, F1, F2, rfl, _, r, q⟩ := h; exact .cons (d.dp r) (s.dp q)
 lay := fun x h => by
   rw [Bool.and_eq_true] at h
   simp [PyData.canLayAll0, d.lay x.1 h.1, s.lay x.2 h.2]
 dpt := fun x => by
   simp only [PyData.depthAll]
   have h1 := d.dpt x.1
   have h2 := s.dpt x.2
   omega
 eqv := fun x y => by
   obtain ⟨x1, x2⟩ := x
   obtain ⟨y1, y2⟩ := y
   letI := d.dec
   letI := s.dec
   simp only [PyData.eqvAll, d.eqv x1 y1, s.eqv x2 y2]
   by_cases h1 : x1 = y1
   · by_cases h2 : x2 = y2
     · subst h1 h2; simp
     · have : ¬ ((x1, x2) = (y1, y2)) := fun e => h2 (Prod.mk.inj e).2
       simp only [h2, decide_false, Bool.and_false]
       exact (decide_eq_false this).symm
   · have : ¬ ((x1, x2) = (y1, y2)) := fun e => h1 (Prod.mk.inj e).1
     simp only [h1, decide_false, Bool.false_and]
     exact (decide_eq_false this).symm
def dao_tup (s : SatO ts m) : DatO (yTup ts) (m + 1) where
 f := fun x => .tuple (s.f x)
 ok := s.ok
 dec := s.dec
 dp := fun h => by obtain ⟨a, vs, rfl, sq, q⟩ := h; exact .tup sq (s.dp q)
 lay := fun x h => by simp only [PyData.canLay0]; exact s.lay x h
 dpt := fun x => by simp only [PyData.depth]; exact Nat.succ_le_succ (s.dpt x)
 eqv := fun x y => by simp only [PyData.eqv]; exact s.eqv x y
theorem DatO.shaped (d : DatO τ n) (hn : n ≤ 64) (x : α) (h : d.ok x = true) : SeqAt.shaped (d.f x) = true := by
 unfold SeqAt.shaped
 rw [d.lay x h, decide_eq_true (Nat.le_trans (d.dpt x) hn)]
 rfl
variable {K : PySem.W.Frag} {H : Hp} {F1 F2 : List Addr} {v u : V} {Q : VK} {x y : α}
theorem okB {a b : Bool} {z : Unit} (h : Mi.guardO (a && b) = some z) : a = true ∧ b = true := by
 unfold Mi.guardO at h
 split at h
 · rename_i q; rw [Bool.and_eq_true] at q; exact q
 · cases h
theorem w_neO [i : DecidableEq α] {z : Unit} (d : DatO τ n) (r : τ.rep K H F1 v x) (q : τ.rep K H F2 u y) (g : Mi.guardO (d.ok x && d.ok y) = some z) (k : Q (.bl (!decide (x = y))) H) (hn : n ≤ 64 := by decide) : rNeD K v u H Q :=
 ⟨_, _, d.dp r, d.dp q, d.shaped hn x (okB g).1, d.shaped hn y (okB g).2, by
   have e : @decide (x = y) (d.dec x y) = @decide (x = y) (i x y) := by congr
   rw [d.eqv, e]; exact k⟩
end
end G
namespace G
open PySem PySem.Spec PyProof.Rows L2
inductive Par3 {α : Type} (R : V → List Addr → α → Prop) : List V → List (List Addr) → List α → Prop
 | nil : Par3 R [] [] []
 | cons {u : V} {Fi : List Addr} {x : α} {vs : List V} {Fs : List (List Addr)} {xs : List α} : R u Fi x → Par3 R vs Fs xs → Par3 R (u :: vs) (Fi :: Fs) (x :: xs)
theorem Par3.mapP {α : Type} {R S : V → List Addr → α → Prop} : ∀ {vs Fs} {xs : List α}, Par3 R vs Fs xs → (∀ u Fi x, Fi ∈ Fs → R u Fi x → S u Fi x) → Par3 S vs Fs xs
 | _, _, _, .nil, _ => .nil
 | _, _, _, .cons r t, h => .cons (h _ _ _ (List.mem_cons_self ..) r) (Par3.mapP t fun u Fi x m => h u Fi x (List.mem_cons_of_mem _ m))
theorem Par3.len {α : Type} {R : V → List Addr → α → Prop} : ∀ {vs Fs} {xs : List α}, Par3 R vs Fs xs → vs.length = xs.length ∧ Fs.length = xs.length
 | _, _, _, .nil => ⟨rfl, rfl⟩
 | _, _, _, .cons r t => by
   have := Par3.len t
   simp [this.1, this.2]
theorem Par3.pr {α : Type} {R : V → List Addr → α → Prop} {S : V → α → Prop} : ∀ {vs Fs} {xs : List α}, Par3 R vs Fs xs → (∀ u Fi x, Fi ∈ Fs → R u Fi x → S u x) → Paired S vs xs
 | _, _, _, .nil, _ => .nil
 | _, _, _, .cons r t, h => .cons (h _ _ _ (List.mem_cons_self ..) r) (Par3.pr t fun u Fi x m => h u Fi x (List.mem_cons_of_mem _ m))
theorem Par3.setAt {α : Type} {R S : V → List Addr → α → Prop} : ∀ {vs Fs} {xs : List α} (_ : Par3 R vs Fs xs) {j : Nat} {u : V} {Fi : List Addr} {y : α}, vs[j]? = some u → Fs[j]? = some Fi → S u Fi y → (∀ (k : Nat) u' Fk x, k ≠ j → Fs[k]? = some Fk → R u' Fk x → S u' Fk x) → Par3 S vs Fs (xs.set j y)
 | _, _, _, .nil, j, u, Fi, y, h, _, _, _ => by simp at h
 | _, _, _, .cons r t, 0, u, Fi, y, h1, h2, hs, ho => by
   obtain rfl := Option.some.inj h1
   obtain rfl := Option.some.inj h2
   refine .cons hs (Par3.mapP' t fun k u' Fk x hk hr => ho (k + 1) u' Fk x (by omega) hk hr)
 | _, _, _, .cons (u := u0) (Fi := F0) r t, j + 1, u, Fi, y, h1, h2, hs, ho => .cons (ho 0 _ _ _ (by omega) rfl r) (Par3.setAt t (j := j) h1 h2 hs fun k u' Fk x hk hf hr => ho (k + 1) u' Fk x (by omega) hf hr)
where
 Par3.mapP' {α : Type} {R S : V → List Addr → α → Prop} : ∀ {vs Fs} {xs : List α}, Par3 R vs Fs xs → (∀ (k : Nat) u Fk x, Fs[k]? = some Fk → R u Fk x → S u Fk x) → Par3 S vs Fs xs
 | _, _, _, .nil, _ => .nil
 | _, _, _, .cons r t, h => .cons (h 0 _ _ _ rfl r) (Par3.mapP' t fun k u Fk x hk => h (k + 1) u Fk x hk)
section
variable {K : PySem.W.Frag} {σ σ' : L2.St} {H : Hp} {F F1 F2 Fu : List Addr} {ta tb te : TE} {v u x y : V} {i j : Int} {α β : Type} {τ : Ty α} {υ : Ty β} {Q : VK}
theorem lst_nd {xs : List α} (r : (yLst τ).rep K H F v xs) : F.Nodup := by
 obtain ⟨a, vs, _, rfl, _⟩ := r
 exact List.nodup_cons.mpr ⟨List.not_mem_nil, List.nodup_nil⟩
end
end G
namespace L2
open PySem PySem.Spec PyProof.Rows
section
variable {P : Program} {w : World} {A : Around} {E : Value → Shared → Prop} {s : Shared} {a : Addr} {L : List (Addr × List Int)} {es : Array (Int × Value)} {ep : Nat} {t : SetTable}
structure SetB (P : Program) (w : World) (h : Heap) (a : Addr) (L : List (Addr × List Int)) (es : Array (Int × Value)) (ep : Nat) (t : SetTable) : Prop where
 obj : ∃ o, h.get? a = some o ∧ o.ExactSet ∧ o.data = .set es ep t
 rws : es.toList = rowsOf P w L
 tb : TabOk t (L.map fun p => thash P w p.2)
 ndp : (L.map (·.2)).Nodup
 tps : ∀ p ∈ L, IsT P w h p.2 p.1
 pln : t.plain = true
 ld : w.params.followText "set-order" = true ∨ t.led = true
 rm : L.length * 5 < t.mask * 3
theorem SetB.of {h : Heap} (R : SetTR P w h a L es ep t) : SetB P w h a L es ep t := ⟨R.ob, R.rows, R.tab, R.nd, R.tup, R.plain, R.led, R.room⟩
theorem SetB.sz {h : Heap} (R : SetB P w h a L es ep t) : es.size = L.length := by
 have z := congrArg List.length R.rws
 simpa [rowsOf] using z
end
end L2
namespace L2
open PySem PySem.Spec PyProof.Rows
structure SetB0 (P : Program) (w : World) (h : Heap) (a : Addr) (L : List (Addr × List Int)) : Prop where
 has : ∃ (es : Array (Int × Value)) (ep : Nat) (t : SetTable), (∃ o, h.get? a = some o ∧ o.ExactSet ∧ o.data = .set es ep t) ∧ es.toList = rowsOf P w L ∧ TabOk t (L.map fun p => thash P w p.2) ∧ (L.map (·.2)).Nodup ∧ t.plain = true ∧
   (w.params.followText "set-order" = true ∨ t.led = true) ∧ L.length * 5 < t.mask * 3
section
variable {P : Program} {w : World} {h : Heap} {a : Addr} {L : List (Addr × List Int)} {es : Array (Int × Value)} {ep : Nat} {t : SetTable}
theorem SetB.bare (R : SetB P w h a L es ep t) : SetB0 P w h a L := ⟨es, ep, t, R.obj, R.rws, R.tb, R.ndp, R.pln, R.ld, R.rm⟩
theorem SetB0.whole (R : SetB0 P w h a L) (ht : ∀ p ∈ L, IsT P w h p.2 p.1) : ∃ es ep t, SetB P w h a L es ep t := by
 obtain ⟨es, ep, t, x1, x2, x3, x4, x5, x6, x7⟩ := R.has
 exact ⟨es, ep, t, x1, x2, x3, x4, ht, x5, x6, x7⟩
end
section
variable {X : Cx}
variable {o e : Expr} {es : List Expr} {to : TE} {t : TA} {apos cpos : Pos}
end
end L2
namespace L2
open PySem PySem.Spec PyProof.Rows
section
variable {X : Cx} {pins : List (Addr × Obj)} {σ : St} {H : Hp} {s : Shared}
end
end L2
namespace G
open PySem PySem.Spec PyProof.Rows L2
section
variable {X : Cx} {P : Program} {w : World} {K : PySem.W.Frag} {σ σ' : L2.St} {H : Hp} {F F1 F2 Fu : List Addr} {ta tb te to : TE} {v u x y : V} {i j : Int} {Q : VK}
end
end G
namespace G
open PySem PySem.Spec PyProof.Rows L2
theorem pg_tupk {X : Cx} {K : PySem.W.Frag} {es : List Expr} {k : Nat} {t : TGs} {n : Nat} {pos : Pos} (hc : X.calm = true) (h : PGs X es t) (e : X.K = K := by rfl)
 (hn : (assignEach es X.env).length = n := by rfl) (hst : (assignEach es X.env).findIdx? (·.1) = none := by rfl) : PG X (.Tuple es k pos) (gTup K n t) := by subst e; exact pg_tup hc h hn hst
end G
namespace G
open PySem PySem.Spec PyProof.Rows L2
section
variable {K : PySem.W.Frag} {σ σ' : L2.St} {H : Hp} {F F1 F2 Fu : List Addr} {ta tb tc te : TE} {tA : TT} {v u x y : V} {i j k : Int} {α β : Type} {τ : Ty α} {υ : Ty β} {Q : VK} {c : Bool}
theorem val_chainI {p q : Int → Int → Bool} (ha : Val ta σ H (.int i)) (hb : Val tb σ H (.int j)) (hc : Val tc σ H (.int k)) : Val (tChain (rI0 fun i j => .bl (p i j)) (rI0 fun i j => .bl (q i j)) ta tb tc) σ H (.bl (p i j && q j k)) := fun Q z => by
 refine ha _ (hb _ ⟨i, j, rfl, rfl, p i j, rfl, ?_⟩)
 cases e : p i j with
 | true =>
   rw [if_pos rfl]
   refine hc _ ⟨j, k, rfl, rfl, ?_⟩
   rw [e, Bool.true_and] at z; exact z
 | false =>
   rw [if_neg Bool.false_ne_true]
   rw [e, Bool.false_and] at z; exact z
theorem val_if (ht : Ans tA σ H c) (h1 : c = true → Val ta σ H v) (h2 : c = false → Val tb σ H v) : Val (tIf tA ta tb) σ H v := fun Q z => ht _ (by
 cases hc : c with
 | true => rw [if_pos rfl]; exact h1 hc _ z
 | false => rw [if_neg Bool.false_ne_true]; exact h2 hc _ z)
theorem val_ifO {A B : Option α} {z : α} {f : α → V} (ht : Ans tA σ H c) (hz : (if c = true then A else B) = some z) (h1 : A = some z → Val ta σ H (f z)) (h2 : B = some z → Val tb σ H (f z)) : Val (tIf tA ta tb) σ H (f z) :=
 val_if ht (fun hc => h1 (by rw [if_pos hc] at hz; exact hz)) fun hc => h2 (by rw [hc, if_neg Bool.false_ne_true] at hz; exact hz)
end
end G
namespace G
open PySem PySem.Spec PyProof.Rows L2
section
variable {X : Cx} {K : PySem.W.Frag} {σ σ' : L2.St} {H : Hp} {F F1 F2 Fu : List Addr} {ta tb te : TE} {v u x y : V} {Q : VK} {b c : Bool}
end
end G
namespace G
open PySem PySem.Spec PyProof.Rows L2
def yHl {α : Type} (ts : Tys α) : Ty α where
 rep K H F v d := ∃ a vs G, v = .ref a ∧ F = a :: G ∧ a ∉ G ∧ H a = some (.lst vs) ∧ ts.rep K H G vs d
 keep {K H H' F v d} h k := by
   obtain ⟨a, vs, G, e, rfl, na, g, r⟩ := h
   exact ⟨a, vs, G, e, rfl, na, k a _ g (.inl (List.mem_cons_self ..)), ts.keep r fun b o hb z => k b o hb (z.imp (List.mem_cons_of_mem _) id)⟩
 dom {K H F v d} h b m := by
   obtain ⟨a, vs, G, e, rfl, na, g, r⟩ := h
   rcases List.mem_cons.mp m with rfl | m
   · exact ⟨_, g, fun z => z⟩
   · exact ts.dom r b m
section
variable {K : PySem.W.Frag} {σ σ' : L2.St} {H : Hp} {F F1 F2 Fu G : List Addr} {ta tb te : TE} {v u x y : V} {i j : Int} {α β : Type} {τ : Ty α} {υ : Ty β} {ts : Tys α} {Q : VK} {D : Ends} {nx : L2.St → Hp → Prop}
theorem itm_hl {n : Nat} {p : α → β} {d : α} (A : At ts n υ p) (r : (yHl ts).rep K H F v d) :
   ∃ u F1, υ.rep K H F1 u (p d) ∧ (∀ a ∈ F1, a ∈ F) ∧ (∀ {Q : VK}, Q u H → rIxL K v (.int (n : Int)) H Q) ∧ ∀ {σ : L2.St} {ta tb : TE}, Val ta σ H v → Val tb σ H (.int (n : Int)) → Val (tOp (rIxL K) ta tb) σ H u := by
 obtain ⟨a, vs, G, rfl, rfl, na, g, q⟩ := r
 obtain ⟨u, F1, e, ru, sub⟩ := A q
 have k : ∀ {Q : VK}, Q u H → rIxL K (.ref a) (.int (n : Int)) H Q := fun k => ⟨a, vs, n, u, rfl, rfl, .inl (.inl g), atI_nat e, k⟩
 exact ⟨u, F1, ru, fun b hb => List.mem_cons_of_mem _ (sub b hb), k, fun ha hb => val_op ha hb fun Q q => k q⟩
theorem e_hl {vs : List V} {d : α} (z : vs.length ≤ Mi.big) (r : ts.rep K H G vs d) (k : ∀ p H', H p = none → Chg [] H H' → (yHl ts).rep K H' (p :: G) (.ref p) d → Q (.ref p) H') : LstG vs H Q :=
 ⟨sz z, fun p np => k p _ np (Chg.lay np trivial) ⟨p, vs, G, rfl, rfl, (fun hp => by
   obtain ⟨o, ho, _⟩ := ts.dom r p hp
   rw [np] at ho; cases ho), upd_same, ts.keep r fun b o e _ => by rw [upd_ne (ne_of_none e np)]; exact e⟩⟩
end
end G
namespace L2
open PySem PySem.Spec PyProof.Rows
section
variable {prog : Program} {w : World} {A : Around} {E : Value → Shared → Prop} {s : Shared}
end
section
variable {X : Cx}
end
end L2
namespace Mi
theorem foldmin (xs : List Int) : ∀ a : Int, (xs.foldl min a = a ∨ xs.foldl min a ∈ xs) ∧ xs.foldl min a ≤ a ∧ ∀ y ∈ xs, xs.foldl min a ≤ y := by
 induction xs with
 | nil => intro a; exact ⟨.inl rfl, Int.le_refl _, fun y h => nomatch h⟩
 | cons x xs ih =>
   intro a
   obtain ⟨h1, h2, h3⟩ := ih (min a x)
   show (xs.foldl min (min a x) = a ∨ _) ∧ xs.foldl min (min a x) ≤ a ∧ _
   refine ⟨?_, by omega, fun y hy => ?_⟩
   · rcases h1 with h1 | h1
     · by_cases hax : a ≤ x
       · exact .inl (by rw [h1]; omega)
       · refine .inr (List.mem_cons.mpr (.inl ?_)); show xs.foldl min (min a x) = x; rw [h1]; omega
     · exact .inr (List.mem_cons_of_mem _ h1)
   · show xs.foldl min (min a x) ≤ y
     rcases List.mem_cons.mp hy with rfl | hy
     · omega
     · exact h3 y hy
theorem foldmax (xs : List Int) : ∀ a : Int, (xs.foldl max a = a ∨ xs.foldl max a ∈ xs) ∧ a ≤ xs.foldl max a ∧ ∀ y ∈ xs, y ≤ xs.foldl max a := by
 induction xs with
 | nil => intro a; exact ⟨.inl rfl, Int.le_refl _, fun y h => nomatch h⟩
 | cons x xs ih =>
   intro a
   obtain ⟨h1, h2, h3⟩ := ih (max a x)
   show (xs.foldl max (max a x) = a ∨ _) ∧ a ≤ xs.foldl max (max a x) ∧ _
   refine ⟨?_, by omega, fun y hy => ?_⟩
   · rcases h1 with h1 | h1
     · by_cases hax : x ≤ a
       · exact .inl (by rw [h1]; omega)
       · refine .inr (List.mem_cons.mpr (.inl ?_)); show xs.foldl max (max a x) = x; rw [h1]; omega
     · exact .inr (List.mem_cons_of_mem _ h1)
   · show y ≤ xs.foldl max (max a x)
     rcases List.mem_cons.mp hy with rfl | hy
     · omega
     · exact h3 y hy
theorem lMin_spec {xs : List Int} {m : Int} (h : lMin xs = some m) : 0 < xs.length ∧ m ∈ xs ∧ ∀ y ∈ xs, m ≤ y := by
 cases xs with
 | nil => cases h
 | cons x xs =>
   obtain rfl : (x :: xs).foldl min x = m := Option.some.inj h
   obtain ⟨h1, h2, h3⟩ := foldmin (x :: xs) x
   refine ⟨Nat.succ_pos _, ?_, h3⟩
   rcases h1 with h1 | h1
   · rw [h1]; exact List.mem_cons_self ..
   · exact h1
theorem lMax_spec {xs : List Int} {m : Int} (h : lMax xs = some m) : 0 < xs.length ∧ m ∈ xs ∧ ∀ y ∈ xs, y ≤ m := by
 cases xs with
 | nil => cases h
 | cons x xs =>
   obtain rfl : (x :: xs).foldl max x = m := Option.some.inj h
   obtain ⟨h1, h2, h3⟩ := foldmax (x :: xs) x
   refine ⟨Nat.succ_pos _, ?_, h3⟩
   rcases h1 with h1 | h1
   · rw [h1]; exact List.mem_cons_self ..
   · exact h1
end Mi
namespace G
open PySem PySem.Spec PyProof.Rows L2
section
variable {X : Cx} {K : PySem.W.Frag} {σ σ' : L2.St} {H : Hp} {F : List Addr} {v : V} {Q : VK} {m : Int}
theorem cl_maxL {K : PySem.W.Frag} (hc : X.calm = true) (e : X.K = K := by rfl) : CallR X (.builtin "max") (rMax K) := by subst e; exact cr_max hc
theorem cl_minL {K : PySem.W.Frag} (hc : X.calm = true) (e : X.K = K := by rfl) : CallR X (.builtin "min") (rMin K) := by subst e; exact cr_min hc
theorem w_maxL {xs : List Int} (r : (yLst yInt).rep K H F v xs) (h : Mi.lMax xs = some m) (k : Q (.int m) H) : rMax K [v] H Q := by
 obtain ⟨p, rfl, s⟩ := ints_sqL r
 obtain ⟨h1, h2, h3⟩ := Mi.lMax_spec h
 exact ⟨p, xs, rfl, s, h1, fun z hz ha => by rw [show z = m from Int.le_antisymm (h3 z hz) (ha m h2)]; exact k⟩
theorem w_minL {xs : List Int} (r : (yLst yInt).rep K H F v xs) (h : Mi.lMin xs = some m) (k : Q (.int m) H) : rMin K [v] H Q := by
 obtain ⟨p, rfl, s⟩ := ints_sqL r
 obtain ⟨h1, h2, h3⟩ := Mi.lMin_spec h
 exact ⟨p, xs, rfl, s, h1, fun z hz ha => by rw [show z = m from Int.le_antisymm (ha m h2) (h3 z hz)]; exact k⟩
end
def tupAt (K : PySem.W.Frag) (a : Addr) (vs : List He.Dv) : Bool := match K.lookup a with
 | some ⟨.type c, _, .seq its _, _⟩ => decide (c = "tuple") && (decide (its.size ≤ sizeLine) && He.relAll (vs.map (He.Dv.v K)) its.toList)
 | _ => false
theorem tupAt_ok {K : PySem.W.Frag} {a : Addr} {vs : List He.Dv} (h : tupAt K a vs = true) (H : Hp) : SqT K H a (vs.map (He.Dv.v K)) := by
 unfold tupAt at h
 cases q : K.lookup a with
 | none =>
   rw [q] at h
   cases h
 | some o =>
   obtain ⟨oc, od, dt, osl⟩ := o
   rw [q] at h
   cases oc with
   | type c =>
     cases dt with
     | seq its n =>
       obtain ⟨h1, h2⟩ := He.ba (show (decide (c = "tuple") && (decide (its.size ≤ sizeLine) && He.relAll (vs.map (He.Dv.v K)) its.toList)) = true from h)
       obtain ⟨h3, h4⟩ := He.ba h2
       exact .inr ⟨_, its, n, q, congrArg Value.type (of_decide_eq_true h1), rfl, of_decide_eq_true h3, He.relAll_ok h4⟩
     | _ => cases h
   | _ => cases dt <;> cases h
def permG (ix : List Nat) {α : Type} (us mv ws : List α) : List α := ix.filterMap fun i => (us ++ (mv ++ ws))[i]?
theorem vals_at {vs : List V} {us : List Value} (r : Vals vs us) (i : Nat) : (vs[i]? = none ∧ us[i]? = none) ∨ ∃ v u, vs[i]? = some v ∧ us[i]? = some u ∧ RelV v u := by
 induction r generalizing i with
 | nil => exact .inl ⟨rfl, rfl⟩
 | cons h t ih =>
   cases i with
   | zero => exact .inr ⟨_, _, rfl, rfl, h⟩
   | succ i => exact ih i
theorem vals_app {vs zs : List V} {us ws : List Value} (r : Vals vs us) (q : Vals zs ws) : Vals (vs ++ zs) (us ++ ws) := by
 induction r with
 | nil => exact q
 | cons h t ih => exact .cons h ih
theorem permG_rel (ix : List Nat) {vs mz zs : List V} {us mv ws : List Value} (r1 : Vals vs us) (r2 : Vals mz mv) (r3 : Vals zs ws) : Vals (permG ix vs mz zs) (permG ix us mv ws) := by
 have r := vals_app r1 (vals_app r2 r3)
 unfold permG
 induction ix with
 | nil => exact .nil
 | cons i ix ih =>
   rcases vals_at r i with ⟨e1, e2⟩ | ⟨v, u, e1, e2, h⟩
   · rw [List.filterMap_cons_none e1, List.filterMap_cons_none e2]; exact ih
   · rw [List.filterMap_cons_some e1, List.filterMap_cons_some e2]; exact .cons h ih
end G
namespace G
open PySem PySem.Spec PyProof.Rows L2
section
variable {X : Cx} {P : Program} {w : World} {K : PySem.W.Frag} {σ σ' : L2.St} {H : Hp} {F F1 F2 Fu : List Addr} {ta tb te to : TE} {v u x y : V} {i j : Int} {Q : VK} {α : Type} {τ : Ty α} {n : Nat}
theorem pr_rep {R : V → α → Prop} {vs : List V} {xs : List α} (q : Paired R vs xs) : ∀ k : Nat, Paired R (List.replicate k vs).flatten (List.replicate k xs).flatten
 | 0 => .nil
 | k + 1 => by
   rw [List.replicate_succ, List.replicate_succ, List.flatten_cons, List.flatten_cons]
   exact pr_app q (pr_rep q k)
theorem w_rep {xs zs : List α} (r : (yLst τ).rep K H F v xs) (hm : Mi.repL xs i = some zs) (k : ∀ p H', H p = none → Chg [] H H' → (yLst τ).rep K H' [p] (.ref p) zs → Q (.ref p) H') : rRep v (.int i) H Q := by
 obtain ⟨a, vs, rfl, rfl, g, q⟩ := r
 unfold Mi.repL at hm
 split at hm
 · rename_i hc
   obtain rfl := Option.some.inj hm
   refine ⟨a, i, vs, rfl, rfl, g, by omega, by omega, ?_, fun p np => k p _ np (Chg.lay np trivial) ⟨p, _, rfl, rfl, upd_same, ?_⟩⟩
   · rw [Paired.length q]
     exact Nat.le_trans hc.2.2 (by rw [sizeLine_eq]; decide)
   · exact pr_rep (Paired.mapP q fun _ _ z => Ty.ex z (Chg.lay (o := .lst _) np trivial)) i.toNat
 · cases hm
def LrG2 (x y : V) (H : Hp) (Q : VK) : Prop := ∃ i j, x = .int i ∧ y = .int j ∧ (RgOk i j ∧ ∀ q, H q = none → Q (.ref q) (upd H q (.lst (rgV i j))))
theorem w_lrng2 (h : ta σ H fun x H1 => tb σ H1 fun y H2 => LrG2 x y H2 Q) : tLstRg (tRg2 ta tb) σ H Q := h
theorem rg_ints (a b : Int) : Paired (fun u x => yInt.rep K H [] u x) (rgV a b) (Mi.rng a b) := by
 unfold rgV Mi.rng
 induction List.range (b - a).toNat with
 | nil => exact .nil
 | cons k ks ih => exact .cons ⟨rfl, rfl⟩ ih
theorem rgL_ok {lo hi : Int} {xs : List Int} (hm : Mi.rngL lo hi = some xs) : RgOk lo hi ∧ xs = Mi.rng lo hi := by
 unfold Mi.rngL at hm
 split at hm
 · exact ⟨⟨by omega, by omega, by omega, by omega, by omega⟩, (Option.some.inj hm).symm⟩
 · cases hm
theorem x_lrng {lo hi : Int} {xs : List Int} (hm : Mi.rngL lo hi = some xs) (k : ∀ p H', H p = none → Chg [] H H' → (yLst yInt).rep K H' [p] (.ref p) xs → Q (.ref p) H') : RgOk lo hi ∧ ∀ q, H q = none → Q (.ref q) (upd H q (.lst (rgV lo hi))) := by
 obtain ⟨h1, rfl⟩ := rgL_ok hm
 exact ⟨h1, fun q nq => k q _ nq (Chg.lay nq trivial) ⟨q, _, rfl, rfl, upd_same, rg_ints lo hi⟩⟩
theorem x_lrng2 {lo hi : Int} {xs : List Int} (hm : Mi.rngL lo hi = some xs) (k : ∀ p H', H p = none → Chg [] H H' → (yLst yInt).rep K H' [p] (.ref p) xs → Q (.ref p) H') : LrG2 (.int lo) (.int hi) H Q := ⟨lo, hi, rfl, rfl, x_lrng hm k⟩
theorem opt_n : (yOpt τ).rep K H [] .non (none : Option α) := ⟨rfl, rfl⟩
theorem opt_i {d : α} (nn : v ≠ .non) (r : τ.rep K H F v d) : (yOpt τ).rep K H F v (some d) := ⟨nn, r⟩
theorem w_callN {n m : Nat} {sp : Sp} {gV : List V → List V → List V} {E : XK} {t tk : TA} (h : t σ H fun vs H1 => tk σ H1 fun zs H2 => vs.length = n ∧ zs.length = m ∧ sp (gV vs zs) H2 Q E) : tCallN n m sp gV E t tk σ H Q := h
end
theorem okD {P : Program} {w : World} {K : PySem.W.Frag} {mg : Str → Option Value} {base : Heap} {x qual : Str} {params : Arguments} {body : List Stmt} {scope : Scope} {dvs : List V} {kws : List (Str × V)} {f : Addr} {fd : FuncData} {N ps : List Str} {k : Nat} {sp : Sp} (F : FunD K x qual params body scope dvs kws f fd) (S : FnScope N ps scope) (len : ∀ vs H Q E, sp vs H Q E → vs.length = ps.length)
   (hbody : ∀ (cdv : Value) (A : Around) (outer : List Env) (s : Shared) (H : Hp) (vs : List V) (Q : VK) (E : XK), Room k (A.deeper (envOfC qual scope s.heap.objs.size f cdv)) → sp vs H Q E →
     ∃ t, PSs (cxOf CX0 P w K mg base N qual scope f cdv A outer s H E).nox body t ∧ t { nx := fun _ H' => Q .non H', rt := Q } (start N vs) H) : FnOk P w K mg base CX0 (k + 1) f fd ps sp :=
 F.ok S len fun cdv A outer s H vs Q E hr hsp => by
   obtain ⟨t, h, q⟩ := hbody cdv A outer s H vs Q E hr hsp
   exact ⟨t, h.nox, q⟩
structure DfnD (K : PySem.W.Frag) (mg : Str → Option Value) (x : Str) (st : Stmt) (dvs : List V) : Prop where
 ex : ∃ f fd, FunD K x x (defArgs st) (defBody st) (defScope st) dvs [] f fd ∧ mg x = some (.ref f)
structure CalD (P : Program) (w : World) (K : PySem.W.Frag) (mg : Str → Option Value) (x : Str) (st : Stmt) (dvs : List V) (ps : List Str) (k : Nat) (sp : Sp) : Prop where
 ex : ∃ f fd, mg x = some (.ref f) ∧ FunD K x x (defArgs st) (defBody st) (defScope st) dvs [] f fd ∧ ∀ base : Heap, FnOk P w K mg base CX0 k f fd ps sp
end G
namespace G
open PySem PySem.Spec PyProof.Rows L2
section
variable {X : Cx} {P : Program} {w : World} {K : PySem.W.Frag} {σ σ' : L2.St} {H : Hp} {F F1 F2 Fu : List Addr} {ta tb te to : TE} {tA : TT} {v u x y : V} {i j : Int} {Q : VK} {α β : Type} {τ : Ty α} {υ : Ty β} {n : Nat} {g : TG} {tt : TT} {ws : List Nat}
end
end G
namespace L2
open PySem PySem.Spec PyProof.Rows
section
variable {X : Cx} {e e3 : Expr} {te : TE} {t3 : TO} {pos p2 : Pos}
end
end L2
namespace G
open PySem PySem.Spec PyProof.Rows L2
section
variable {X : Cx} {P : Program} {w : World} {K : PySem.W.Frag} {σ σ' : L2.St} {H : Hp} {F F1 F2 Fu : List Addr} {ta tb te to : TE} {v u x y : V} {i j : Int} {Q : VK} {α β : Type} {τ : Ty α} {υ : Ty β}
theorem opt_back {d : Option α} {z : α} (h : d = some z) (nn : v ≠ .non) (r : τ.rep K H F v z) : (yOpt τ).rep K H F v d := by subst h; exact ⟨nn, r⟩
end
end G
namespace RT
open PySem PySem.Spec PyProof.Rows L2
section
variable {prog : Program} {w : World} {A : Around} {E : Value → Shared → Prop} {s : Shared}
end
end RT
namespace L2
open PySem PySem.Spec PyProof.Rows RT
section
variable {X : Cx}
end
end L2
namespace G
open PySem PySem.Spec PyProof.Rows L2
section
variable {X : Cx} {K : PySem.W.Frag} {σ σ' : L2.St} {H : Hp} {F : List Addr} {te : TE} {v : V} {Q : VK} {α : Type} {τ : Ty α}
end
end G
namespace L2
open PySem PySem.Spec PyProof.Rows
end L2
namespace G
open PySem PySem.Spec PyProof.Rows L2
section
variable {X : Cx} {K : PySem.W.Frag} {σ σ' : L2.St} {H : Hp} {F : List Addr} {te ta tb : TE} {v : V} {Q : VK} {α : Type} {τ : Ty α} {a b c : List Nat} {i : Int} {D : Ends} {t2 : TS}
theorem eq_str (a b : List Nat) : eqV (.str (toS a)) (.str (toS b)) = (a == b) := by
 show (toS a == toS b) = (a == b)
 by_cases h : a = b
 · subst h; simp
 · rw [beq_eq_false_iff_ne.mpr h, beq_eq_false_iff_ne.mpr fun z => h (toS_inj z)]
theorem in_strs (x : List Nat) : ∀ xs : List (List Nat), inV (.str (toS x)) (xs.map fun x => V.str (toS x)) = xs.contains x
 | [] => rfl
 | y :: ys => by
   have ih := in_strs x ys
   unfold inV at ih ⊢
   rw [List.map_cons, List.any_cons, ih, eq_str, List.contains_cons]
   congr 1
   by_cases h : y = x
   · subst h; rfl
   · rw [beq_eq_false_iff_ne.mpr h, beq_eq_false_iff_ne.mpr (Ne.symm h)]
theorem flat_strs (xs : List (List Nat)) : (xs.map fun x => V.str (toS x)).all flatV = true := by
 rw [List.all_eq_true]
 intro y hy
 obtain ⟨z, _, rfl⟩ := List.mem_map.mp hy
 rfl
theorem q_while {tc : TT} {tb : TS} (h : tWhile tc tb { D with nx := t2 D } σ H) : tSeq (tWhile tc tb) t2 D σ H := h
theorem l_while {tc : TT} {tb : TS} {nx : L2.St → Hp → Prop} (Pv : Nat → L2.St → Hp → Prop) (m : Nat) (h0 : Pv m σ H)
 (hs : ∀ m σ' H', Pv m σ' H' → tc σ' H' fun b H1 => if b = true then ∃ N : L2.St → Hp → Prop, (∀ σ2 H2, N σ2 H2 → ∃ m', m' < m ∧ Pv m' σ2 H2) ∧ tb { D with nx := N, ct := N, bk := nx } σ' H1 else nx σ' H1) : tWhile tc tb { D with nx := nx } σ H := ⟨Pv, ⟨m, h0⟩, hs⟩
end
end G
namespace L2
open PySem PySem.Spec PyProof.Rows ItX
abbrev tuIt (t : Addr) (i : Nat) : Obj := { cls := .type "tuple_iterator", data := .fields #[.ref t, .int i 0] }
def ItTO (t it : Addr) : HO := .ext fun h => h.get? it = some (tuIt t 0)
theorem itTO_ok {P : Program} {w : World} {H : Hp} {h : Heap} {t it : Addr} (e : h.get? it = some (tuIt t 0)) : ObjOk P w H h it (ItTO t it) := ⟨e, ⟨_, e⟩, fun h1 h2 q k => k _ q⟩
theorem call_iterTu {prog : Program} {w : World} {A : Around} {E : Value → Shared → Prop} {s : Shared} {l : Addr} {items : Array Value} {Q : Value → Shared → Prop} (hl : s.heap.IsTuple l items) (h : Q (.ref s.heap.objs.size) { s with heap := s.heap.push (tuIt l 0) }) : wpAny (model prog w) A (call (.builtin "iter") [.ref l]) Q E s := by
 refine Calls.call_function_entry (by decide +kernel) (by decide +kernel) PySem.W.kdk_entry_iter (PySem.W.kdk_args_iter _) ?_
 unfold Builtin.«iter»
 refine wpAny_bind (m := someArgs "iter" 1 2 _) (wpAny_of_eq (a := [Value.ref l]) (by first | rfl | kernel_rfl!) ?_)
 show wpAny _ _ (pyIter (.ref l) >>= _) _ _ _
 refine wpAny_bind (wpAny_pyIter_tuple hl ?_)
 exact wpAny_pure ⟨_, rfl, h⟩
def rIterT (K : PySem.W.Frag) (n : Nat) : List V → Hp → VK → Prop := fun xs H Q => ∃ (t : Addr) (zs : List V), xs = [.ref t] ∧ SqT K H t zs ∧ ∀ it, H it = none → n ≤ it → Q (.ref it) (upd H it (ItTO t it))
theorem call_iterT {X : Cx} {K : PySem.W.Frag} {n : Nat} (e : X.K = K := by rfl) (hn : X.s_0.heap.objs.size = n := by rfl) : CallR X (.builtin "iter") (rIterT K n) := by
 subst e hn
 intro pins s σ H xs us Q I r h
 obtain ⟨l, zs, rfl, hq, q⟩ := h
 obtain ⟨u, rfl, ru⟩ := vals1 r
 cases ru
 obtain ⟨its, rv, pl, hz⟩ := I.tuple hq
 refine call_iterTu (show s.heap.IsTuple l its.toArray from pl) ?_
 exact ⟨.ref s.heap.objs.size, _, I.laid (t' := s.toks) (fun b u e => Heap.get?_push_of_some _ e) (Nat.le_refl _) (itTO_ok (Heap.get?_push_size _ rfl)), rfl, q _ (I.hok.fresh (Nat.le_refl _)) I.sz⟩
structure FnOkS (P : Program) (w : World) (K : PySem.W.Frag) (mg : Str → Option Value) (base : Heap) (CX : CXT) (k : Nat) (f : Addr) (fd : FuncData) (ps : List Str) (sp : Nat → Sp) : Prop where
 len : ∀ n vs H Q E, sp n vs H Q E → vs.length = ps.length
 run : ∀ (A : Around) (outer : List Env) (s : Shared) (H : Hp) (args : Args) (us : List Value) (vs : List V) (Q : VK) (E : XK), Room k A → Env0 P w K mg base A outer s H → BindsTo s fd args (ps.zip us) → Vals vs us → sp s.heap.objs.size vs H Q E →
   codeAny (model P w) A (.call (.ref f) args) (CR CX outer P w H s Q E) s
theorem fn_ofS {CX : CXT} {P : Program} {w : World} {K : PySem.W.Frag} {mg : Str → Option Value} {base : Heap} {k : Nat} {f : Addr} {name qual : Str} {params : Arguments} {body : List Stmt} {scope : Scope} {dV kV doc pm cdv ct oc : Value} {an od : Option Addr}
   {osl : Array (Option Value)} {N ps : List Str} {sp : Nat → Sp} (lk : K.lookup f = some ⟨oc, od, .func (PySem.W.fnOf name qual params body scope dV kV doc pm an cdv ct), osl⟩) (hcd : PySem.W.codeIn K cdv qual = true) (S : FnScope N ps scope)
   (len : ∀ n vs H Q E, sp n vs H Q E → vs.length = ps.length)
   (hbody : ∀ (A : Around) (outer : List Env) (s : Shared) (H : Hp) (vs : List V) (Q : VK) (E : XK), Room k (A.deeper (envOfC qual scope s.heap.objs.size f cdv)) → sp s.heap.objs.size vs H Q E →
     ∃ t, PSs (cxOf CX P w K mg base N qual scope f cdv A outer s H E) body t ∧ t { nx := fun _ H' => Q .non H', rt := Q } (start N vs) H) :
   FnOkS P w K mg base CX (k + 1) f (PySem.W.fnOf name qual params body scope dV kV doc pm an cdv ct) ps sp := by
 refine ⟨len, fun A outer s H args us vs Q E hr e0 hb r hsp => ?_⟩
 have hl := len _ _ _ _ _ hsp
 have KX : K.In s.heap := e0.mod.kin.keeps fun b o e => (e0.bs b o e).1
 have lim : s.heap.NoLimit := e0.mod.nolimit.keeps fun b o e => (e0.bs b o e).1
 have hkind : ∀ y ∈ ps.zip us, scope.names.lookup y.1 = some .local ∨ (scope.names.lookup y.1 = some .cell ∧ ((cellsFrom (s.heap.objs.size + 1) scope.names []).lookup y.1).isSome = true) := fun ⟨n, v⟩ hy => by
   rcases S.par n (List.of_mem_zip hy).1 with q | q
   · exact .inl q
   · exact .inr ⟨q, PySem.W.cellsFrom_some _ _ _ (.inl q)⟩
 refine codeAny_call_function hr.depth (KX _ _ lk) rfl S.co S.gen rfl (PySem.W.codeRec_of KX hcd) (hb _ _ _ _ ?_)
 refine wpAny_newFunctionEnv_cells S.kind hkind fun env he s1 x => ?_
 subst he
 refine ⟨lim.keeps x.toInCall.keep, codeAny_func ?_⟩
 obtain ⟨t, ht, hq⟩ := hbody A outer s H vs Q E (hr.deeper _) hsp
 have I : Inv (cxOf CX P w K mg base N qual scope f cdv A outer s H E) [] (start N vs) H s1 := inv_start S hr.hd e0 hl r x
 refine wpAny_mono (ht.run [] s1 (start N vs) H _ I hq) (fun fl s' hs => ?_) fun e s' hs => hs
 have fin : ∀ {σ' : St} {H' : Hp} {v : V} {u : Value}, Inv (cxOf CX P w K mg base N qual scope f cdv A outer s H E) [] σ' H' s' → RelV v u → Q v H' → CE outer P w H s Q u s' :=
   fun {σ' H' v u} J rv q => ⟨v, H', J.os, J.bare, J.base, J.hok, rv, q⟩
 cases fl with
 | ret u =>
   obtain ⟨v, σ', H', J, rv, q⟩ := hs
   exact fin J rv q
 | next =>
   obtain ⟨σ', H', J, q⟩ := hs
   exact fin (v := V.non) (u := Value.none) J rfl q
 | brk =>
   obtain ⟨_, _, _, q⟩ := hs
   exact False.elim q
 | cont =>
   obtain ⟨_, _, _, q⟩ := hs
   exact False.elim q
def spIter (K : PySem.W.Frag) (C : Addr) (fld : Str) (n : Nat) : Sp := fun vs H Q _ => ∃ (a dx : Addr) (fs : List (Str × V)) (t : Addr) (zs : List V), vs = [.ref a] ∧ H a = some (.ins C dx fs) ∧ fs.lookup fld = some (.ref t) ∧ SqT K H t zs ∧
 ∀ it, H it = none → n ≤ it → Q (.ref it) (upd H it (ItTO t it))
section
variable {X : Cx} {tg e : Expr} {te : TE} {C fi : Addr} {fd : FuncData} {n : Nat} {fld : Str}
end
end L2
namespace G
open PySem PySem.Spec PyProof.Rows L2
structure CalIt (P : Program) (w : World) (K : PySem.W.Frag) (mg : Str → Option Value) (C : Addr) (fld : Str) (k : Nat) : Prop where
 ex : ∃ f fd, Meth K C "__iter__" f ∧ (∀ (s : Shared) (us : List Value), us.length = 1 → BindsTo s fd ⟨us, []⟩ ((["self"] : List Str).zip us)) ∧ ∀ base : Heap, FnOkS P w K mg base CX0 k f fd ["self"] (spIter K C fld)
theorem okS {P : Program} {w : World} {K : PySem.W.Frag} {mg : Str → Option Value} {base : Heap} {x qual : Str} {st : Stmt} {f : Addr} {fd : FuncData} {N ps : List Str} {k : Nat} {sp : Nat → Sp} (F : Fun K x qual st f fd) (S : FnScope N ps (defScope st)) (len : ∀ n vs H Q E, sp n vs H Q E → vs.length = ps.length)
   (hbody : ∀ (cdv : Value) (A : Around) (outer : List Env) (s : Shared) (H : Hp) (vs : List V) (Q : VK) (E : XK), Room k (A.deeper (envOfC qual (defScope st) s.heap.objs.size f cdv)) → sp s.heap.objs.size vs H Q E →
     ∃ t, PSs (cxOf CX0 P w K mg base N qual (defScope st) f cdv A outer s H E) (defBody st) t ∧ t { nx := fun _ H' => Q .non H', rt := Q } (start N vs) H) : FnOkS P w K mg base CX0 (k + 1) f fd ps sp := by
 obtain ⟨oc, od, kV, doc, pm, an, cdv, ct, osl, rfl, lk, hcd⟩ := F.ex
 exact fn_ofS lk hcd S len fun A outer s H vs Q E hr hsp => hbody cdv A outer s H vs Q E hr hsp
section
variable {X : Cx} {K : PySem.W.Frag} {σ σ' : L2.St} {H : Hp} {F : List Addr} {te : TE} {v : V} {α β : Type} {τ : Ty α} {C : Addr} {ns : List Str} {fld : Str}
end
end G
namespace L2
open PySem PySem.Spec PyProof.Rows ItX
section
variable {X : Cx} {C f : Addr} {fd : FuncData} {k : Nat} {ps : List Str} {sp : Sp}
end
section
variable {X : Cx} {C fi : Addr} {fd : FuncData} {n : Nat} {fld : Str}
end
end L2
namespace G
open PySem PySem.Spec PyProof.Rows L2
section
variable {X : Cx} {K : PySem.W.Frag} {σ σ' : L2.St} {H : Hp} {F : List Addr} {ta te : TE} {v x y : V} {α β : Type} {τ : Ty α} {C : Addr} {ns : List Str} {fld : Str} {Q : VK}
def tTru (K : PySem.W.Frag) (ta : TE) : TT := fun σ H Q => ta σ H fun x H' => ∃ k, TruV K x H' k ∧ Q k H'
theorem pt_truK {a : Expr} (ha : PE X a ta) (he : ∀ whole, isTrue a X.env whole = (do let v ← whole; standAt a.pos; holding [v] (truthy v)) := by intro _; rfl) (e : X.K = K := by rfl) : PT X a (tTru K ta) := by
 subst e; exact pt_truth ha he
theorem emp_pr {R : V → α → Prop} {vs : List V} {xs : List α} (q : Paired R vs xs) : vs.isEmpty = xs.isEmpty := by cases q <;> rfl
theorem ans_truT {xs : List α} (r : (yTupL τ).rep K H F v xs) (h : Val ta σ H v) : Ans (tTru K ta) σ H (!xs.isEmpty) := fun Q q => by
 obtain ⟨p, vs, rfl, s, pq⟩ := tupl_sq r
 exact h _ ⟨!vs.isEmpty, .inr (.inl ⟨vs, s, rfl⟩), by rw [emp_pr pq]; exact q⟩
end
end G
namespace PySem
namespace ErrX
open PySem.W PySem.Calls PyProof.Rows PySem.HandSPX
def eA (p1 p2 : Pos) : Arguments := { posonlyargs := [], args := [{ arg := "self", annotation := none, pos := p1 }, { arg := "part", annotation := none, pos := p2 }], vararg := none, kwonlyargs := [], kw_defaults := [], kwarg := none, defaults := [] }
def eB (m : Str) (p0 p1 p2 p3 p4 p5 p6 p7 q1 q2 q3 q4 : Pos) : List Stmt :=
 [.Expr (.Call (.Attribute (.Call (.Name "super" p0) [] [] p1) "__init__" p2) [.BinOp (.Constant (.str m) 0 p3) .Add (.Name "part" p4) p5] [] p6) p7, .Assign [.Attribute (.Name "self" q1) "part" q2] (.Name "part" q3) q4]
def eS : Scope := { kind := .function, names := [(PySem.Str.ofString "self", .local), (PySem.Str.ofString "part", .local), (PySem.Str.ofString "__class__", .free), (PySem.Str.ofString "super", .globalImplicit)], isGenerator := false, isCoroutine := false, more := [] }
structure ErrTxt (P : Program) (K : Frag) (mg : Str → Option Value) (x qual : Str) (st : Stmt) (C fI : Addr) : Prop where
 gC : mg x = some (.ref C)
 cls : ∃ nm q N bs bm sn sub ab col dd k0 k1 k2 k3 k5, K.lookup C = some (excClassObj nm q C N bs bm true sn sub ab col dd k0 k1 k2 k3 k5 "ValueError.__new__") ∧ refsVE bm = true
 sa : findIn K (.ref C) "__setattr__" = some (some (.builtin "object.__setattr__"))
 ga : findIn K (.ref C) "__getattribute__" = some (some (.builtin "BaseException.__getattribute__"))
 gg : findIn K (.ref C) "__getattr__" = some none
 noN : findIn K (.ref C) "part" = some none
 iC : findIn K (.ref C) "__init__" = some (some (.ref fI))
 tC : typeIn K (.ref fI) = some (.type "function")
 kC : keepIn K (.ref C) = true
 exC : subIn K (.ref C) (.type "BaseException") = some true
 veC : subIn K (.ref C) (.type "ValueError") = some true
 tyC : typeIn K (.ref C) = some (.type "type")
 hdC : hasDictIn K C = true
 mroC : mroIn K C (.ref C) = some true
 sup : ks_superIn K C C "__init__" = some (some (.builtin "ValueError.__init__"))
 opq : nsIn K cStatics "thirdparty.any" = some none
 nsu : mg "super" = none
 top : (P.main.scope.names.lookup ("super" : Str)).isSome = false
 fn : ∃ (oc : Value) (od : Option Addr) (doc pm : Value) (an : Option Addr) (cda : Addr) (ct : Value) (cc : Addr) (osl : Array (Option Value)),
   K.lookup fI = some ⟨oc, od, .func (ksFn "__init__" qual (L2.defArgs st) (L2.defBody st) (L2.defScope st) .none .none doc pm an (.ref cda) ct cc), osl⟩ ∧ codeIn K (.ref cda) qual = true ∧
   (∃ (ccl : Value) (cdd : Option Addr) (vs : Array Value) (ccs : Array (Option Value)) (file : Str) (tf : Tok), K.lookup cda = some ⟨ccl, cdd, .fields vs, ccs⟩ ∧ vs[2]? = some (.str file tf) ∧ ((P.main.file : Str) == file) = true) ∧
   ∃ (cl : Value) (cld : Option Addr) (csl : Array (Option Value)), K.lookup cc = some ⟨cl, cld, .cell (some (.ref C)), csl⟩
 shape : ∃ (msg : Str) (r1 r2 p0 p1 p2 p3 p4 p5 p6 p7 q1 q2 q3 q4 : Pos), L2.defArgs st = eA r1 r2 ∧ L2.defBody st = eB msg p0 p1 p2 p3 p4 p5 p6 p7 q1 q2 q3 q4 ∧ L2.defScope st = eS ∧ msg.length ≤ 100 ∧
   ∀ L f cda cc : Addr, ∃ pl : Sem Bool, eval (.Call (.Attribute (.Call (.Name "super" p0) [] [] p1) "__init__" p2) [.BinOp (.Constant (.str msg) 0 p3) .Add (.Name "part" p4) p5] [] p6) (ksEnv qual eS L f (.ref cda) cc) = (do
     let ov ← attributeBase (.Call (.Name "super" p0) [] [] p1) "__init__" (ksEnv qual eS L f (.ref cda) cc) (eval (.Call (.Name "super" p0) [] [] p1) (ksEnv qual eS L f (.ref cda) cc))
     standAt p2.atName
     let (f', first) ← holding [ov] (getMethod ov "__init__" pl)
     callWith p6 f' first (backTo p6 (starEach [.BinOp (.Constant (.str msg) 0 p3) .Add (.Name "part" p4) p5] (ksEnv qual eS L f (.ref cda) cc))) [])
structure InitEnd (h h' : Heap) (x C dx : Addr) (v : Value) : Prop where
 keep : ∀ b o, b ≠ x → h.get? b = some o → h'.get? b = some o
 obj : ∃ t1 : Addr, h'.get? x = some { cls := .ref C, dict := some dx, data := .fields #[.ref t1, .none, .none, .none, .bool false, .none] }
 dbig : h.objs.size ≤ dx
 dne : dx ≠ x
 ns : h'.Ns1 dx (fun y => if y = "part" then some v else none)
section
variable {prog : Program} {w : World} {A : Around} {E : Value → Shared → Prop} {R : Result → Shared → Prop} {s : Shared} {K : Frag} {mg mb : Str → Option Value} {C fI : Addr} {cn qual : Str} {st : Stmt}
theorem ldX {M : Model} {s : Shared} {name : Str} {scope : Scope} {L a cc : Addr} {cd : Value} {m : Str → Option Value} {x : Str} {pos : Pos} {v : Value} {Q : Value → Shared → Prop} {A : Around} {E : Value → Shared → Prop} (hn : s.heap.Ns L m) (hv : m x = some v) (h : Q v s)
 (hk : scope.kind = .function := by rfl) (hl : (ksEnv name scope L a cd cc).kindOf x = some .local := by rfl) (hd : (x == ("__debug__" : Str)) = false := by decide) :
 wpAny M A (eval (.Name x pos) (ksEnv name scope L a cd cc)) Q E s := wpAny_Name (wpAny_loadName_local hk hl hn hv h) hd
theorem err_init (T : ErrTxt prog K mg cn qual st C fI) {x t0 : Addr} {y : Str} {ty : Tok} (X : K.In s.heap) (hg : s.heap.Ns mainGlobals mg) (hb : s.heap.Ns builtinsNs mb) (hbs : mb "super" = bootBuiltins "super") (hlim : s.heap.NoLimit) (hx : s.heap.get? x = some (excO C t0)) (hnx : K.lookup x = none) (hy : y.length ≤ 1000000) (hroom : A.depth < recursionLimit)
   (hq : ∀ h' tk dx, InitEnd s.heap h' x C dx (.str y ty) → R (.ok (.ret .none)) { s with heap := h', toks := tk }) :
   codeAny (model prog w) A (.call (.ref fI) ⟨[.ref x, .str y ty], []⟩) R s := by
 obtain ⟨oc, od, doc, pm, an, cda, ct, cc, osl, ho, hcd, ⟨ccl, cdd, vs, ccs, file, tf, hcode, hvs, hfile⟩, cl, cld, csl, hcell⟩ := T.fn
 obtain ⟨msg, r1, r2, p0, p1, p2, p3, p4, p5, p6, p7, q1, q2, q3, q4, eA', eB', eS', hml, hev⟩ := T.shape
 rw [eA', eB', eS'] at ho
 obtain ⟨nm, q, N, bs, bm, sn, sub, ab, col, dd, k0, k1, k2, k3, k5, hC, hbm⟩ := T.cls
 have hcl : clsIn K C = some { name := nm, bases := bs, mro := .ref C :: bm, ns := N, qualname := q, hasDict := true, slotNames := sn, subclasses := sub, abstract := ab, collection := col, hasDel := false } := by unfold clsIn; rw [hC] <;> rfl
 refine ks_codeAny_call_defAt (fd := ksFn "__init__" qual (eA r1 r2) (eB msg p0 p1 p2 p3 p4 p5 p6 p7 q1 q2 q3 q4) eS .none .none doc pm an (.ref cda) ct cc) (body := eB msg p0 p1 p2 p3 p4 p5 p6 p7 q1 q2 q3 q4) (binds := [("self", .ref x), ("part", .str y ty)]) hroom (X _ _ ho) rfl hlim (codeRec_of X hcd) rfl (BindsTo.of_eq (by first | rfl | with_unfolding_all rfl)) (fun z hz => by revert z; show ∀ z ∈ eS.names, z.2 ≠ NameKind.cell; decide) (by first | decide | (intro z hz; simp at hz; rcases hz with rfl | rfl <;> rfl)) (fun h₁ hns k => ?_) rfl rfl rfl
 have X₁ : K.In h₁ := X.keeps k
 have hx₁ := k _ _ hx
 show wpAt (model prog w) _ _ (execs (_ :: _) (ksEnv qual eS s.heap.objs.size fI (.ref cda) cc)) _ _ _
 obtain ⟨pl, he⟩ := hev s.heap.objs.size fI cda cc
 refine ks_wpAt_execs_cons (ks_wpAt_Expr_any (ks_wpAt_MethodCall (pl := pl) (he := he) ?_))
 obtain ⟨oD, hD1, hD2⟩ : ∃ oD, h₁.get? C = some oD ∧ oD.data = .cls { name := nm, bases := bs, mro := .ref C :: bm, ns := N, qualname := q, hasDict := true, slotNames := sn, subclasses := sub, abstract := ab, collection := col, hasDel := false } := ⟨_, X₁ _ _ hC, rfl⟩
 refine ks_wpAt_super_base (env := ksEnv qual eS s.heap.objs.size fI (.ref cda) cc) rfl rfl rfl rfl (X₁ _ _ ho) rfl rfl rfl (X₁ _ _ hcode) rfl hvs hfile T.top ?_
 refine ks_loadName_global rfl rfl (loadGlobal_builtin (env := ksEnv qual eS s.heap.objs.size fI (.ref cda) cc) (hg.keeps k) T.nsu (hb.keeps k) (hbs.trans (by decide +kernel)) ⟨rfl, ?_⟩)
 refine wpAny_loadName_free rfl rfl rfl ⟨_, X₁ _ _ hcell, rfl⟩ ?_
 refine wpAny_loadName_local rfl rfl hns (v := .ref x) rfl ?_
 refine ks_wpAny_isType_cls hD1 hD2 ⟨rfl, ?_⟩
 refine ks_wpAny_call_super hD1 hD2 hx₁ rfl (fun c e => by cases e) (looks_mroIn X₁ T.mroC) (fun h₂ hso k₂ => ?_)
 have X₂ : K.In h₂ := X₁.keeps k₂
 have hx₂ := k₂ _ _ hx₁
 have I₂ : InstAt h₂ x (excO C t0) C none := ⟨hx₂, rfl, rfl, trivial⟩
 have hI : Looks (model prog w) h₂ (isInstance (.ref x) (.type "ValueError")) true := I₂.type.andThen (looks_subIn X₂ T.veC)
 have hsup := T.sup
 unfold ks_superIn at hsup
 rw [hcl] at hsup
 refine kxs_getMethod kxs_ValueError hso (looks_opaque X₂ T.opq) (l₀ := .ref C :: bm) (fun A Q E s k q => wpAny_bind ((looks_clsIn X₂ hcl) A _ E s k (wpAny_pure q))) rfl X₂ hsup hI (ks_ne X₂ I₂ hcl) rfl ?_
 have k₃ : ∀ b o, h₂.get? b = some o → (h₂.push (kxs_mw "ValueError.__init__" x)).get? b = some o := fun b o e => Heap.get?_push_of_some _ e
 have hu : (h₂.push (kxs_mw "ValueError.__init__" x)).get? h₂.objs.size = some (kxs_mw "ValueError.__init__" x) := Heap.get?_push_at rfl rfl
 have hns₃ : (h₂.push (kxs_mw "ValueError.__init__" x)).Ns s.heap.objs.size (fun y' => ([("self", .ref x), ("part", Value.str y ty)] : List (Str × Value)).reverse.lookup y') := (hns.keeps k₂).keeps k₃
 refine kxs_callWith (i := "ValueError.__init__") (x := x) rfl (evalArgs_plain (args_cons (wpAny_BinOp (wpAny_Constant_str (ldX hns₃ (v := .str y ty) rfl (add_str (fun t' tk => args_nil ⟨hu, ?_⟩) (by rw [sizeLine_eq]; omega))))) rfl))
 refine wpAny_call (codeAny_of_tree ?_)
 show wpAny _ _ (callAny (.ref h₂.objs.size) ⟨_, []⟩) _ _ _
 simp only [callAny]
 refine wpAny_bind (wpAny_load hu ?_)
 simp only [kxs_mw, show (Value.type "method-wrapper" == Value.type "method" || Value.type "method-wrapper" == Value.type "builtin_function_or_method" || Value.type "method-wrapper" == Value.type "method-wrapper") = true by decide, if_true]
 refine KFB.if_so (by decide) ?_
 refine wpAny_bind (check_bound_init F.excBase_ValueError.toExcCallFacts (k₃ _ _ (X₂ _ _ hC)) (k₃ _ _ hx₂) rfl ?_)
 refine wpAny_bind (wpAny_pure (wpAny_pure ?_))
 refine ⟨plainId_quiet F.excBase_ValueError.init.plain _, codeAny_builtin F.excBase_ValueError.initEntry ?_⟩
 refine exc_init_tree (cls := .ref C) (t0 := t0) (dv := none) (c2 := .none) (c3 := .none) (b4 := .bool false) (k₃ _ _ hx₂) (by rw [sizeLine_eq]; exact (by decide : 1 ≤ 16777216)) fun h₄ k₄ hx₄ _ => ?_
 show wpAt (model prog w) _ _ (execs (_ :: _) (ksEnv qual eS s.heap.objs.size fI (.ref cda) cc)) _ _ _
 have kk : ∀ b o, b ≠ x → s.heap.get? b = some o → h₄.get? b = some o := fun b o hb e => k₄ b o hb (k₃ b o (k₂ b o (k b o e)))
 have hLx : s.heap.objs.size ≠ x := Nat.ne_of_gt (Heap.lt_size hx)
 have hns₄ : h₄.Ns s.heap.objs.size (fun y' => ([("self", .ref x), ("part", Value.str y ty)] : List (Str × Value)).reverse.lookup y') := by
   obtain ⟨oL, es, ep, hL, r⟩ := hns₃
   exact ⟨oL, es, ep, k₄ _ _ hLx hL, r⟩
 have X₄ : K.In h₄ := fun b o e => k₄ b o (fun z => by
   rw [z, hnx] at e; cases e) (k₃ b o (X₂ _ _ e))
 refine wpAt_of_wpAny (wpAny_execs_cons (plainObj_wpAny_Assign_Attribute ?_))
 refine ldX (v := .str y ty) hns₄ rfl (ldX (v := .ref x) hns₄ rfl ?_)
 refine set_plain X₄ (ox := excO C (h₂.push (kxs_mw "ValueError.__init__" x)).objs.size) (od := none) ⟨hx₄, rfl, rfl, trivial⟩ T.sa ?_
 refine exc_osa X₄ hx₄ hcl (show refsVE (.ref C :: bm) = true from hbm) rfl T.noN (fun h₅ tk₅ dx k₅ dn dne hx₅ hn₅ => ?_)
 show wpAny _ _ (execs _ _) _ _ _
 have z : s.heap.objs.size < h₄.objs.size := hns₄.lt
 exact wpAny_execs_nil (hq h₅ tk₅ dx ⟨fun b o hb e => k₅ b o hb (kk b o hb e), ⟨_, hx₅⟩, Nat.le_of_lt (Nat.lt_of_lt_of_le z dn), dne, hn₅⟩)
structure OwnMade (h h' : Heap) (e C d : Addr) (v : Value) : Prop where
 keep : ∀ b o, h.get? b = some o → h'.get? b = some o
 new : h.objs.size ≤ e
 obj : ∃ oe vs, h'.get? e = some oe ∧ oe.cls = .ref C ∧ oe.dict = some d ∧ oe.data = .fields vs ∧ vs[1]? = some .none
 dbig : h.objs.size ≤ d
 dne : d ≠ e
 ns : h'.Ns1 d (fun y => if y = "part" then some v else none)
theorem one_size (v : Value) : [v].length ≤ sizeLine := by
 rw [sizeLine_eq]
 exact (by decide : 1 ≤ 16777216)
theorem err_made (T : ErrTxt prog K mg cn qual st C fI) {y : Str} {ty : Tok} (X : K.In s.heap) (hg : s.heap.Ns mainGlobals mg) (hb : s.heap.Ns builtinsNs mb) (hbs : mb "super" = bootBuiltins "super") (hlim : s.heap.NoLimit) (hy : y.length ≤ 1000000) (hroom : A.depth + 1 < recursionLimit)
   (hq : ∀ h' tk e d, OwnMade s.heap h' e C d (.str y ty) → R (.ok (.ret (.ref e))) { s with heap := h', toks := tk }) :
   codeAny (model prog w) A (.call (.ref C) ⟨[.str y ty], []⟩) R s := by
 obtain ⟨nm, q, N, bs, bm, sn, sub, ab, col, dd, k0, k1, k2, k3, k5, hC, hbm⟩ := T.cls
 obtain ⟨hp, g, dr, tk, os⟩ := s
 have k : ∀ b o, hp.get? b = some o → ((hp.push (kdv_tup [.str y ty])).push (excO C hp.objs.size)).get? b = some o := fun b o e => Heap.get?_push_of_some _ (Heap.get?_push_of_some _ e)
 have hget : ((hp.push (kdv_tup [.str y ty])).push (excO C hp.objs.size)).get? (hp.objs.size + 1) = some (excO C hp.objs.size) := by heap_get
 have hnx : K.lookup (hp.objs.size + 1) = none := by
   cases e : K.lookup (hp.objs.size + 1) with
   | none => rfl
   | some o =>
     have z : hp.get? (hp.objs.size + 1) = some o := X _ _ e
     exact absurd (Nat.lt_of_succ_lt (Heap.lt_size z)) (Nat.lt_irrefl _)
 refine call_own F.excBase_ValueError (fun X => refsVE_contains X bm hbm) (X _ _ hC) (looks_findIn X T.iC) (fun self => bind_fn X self T.tC) (one_size _) ?_
 refine err_init (s := ⟨(hp.push (kdv_tup [.str y ty])).push (excO C hp.objs.size), g, dr, tk, os⟩) T (X.keeps k) (hg.keeps k) (hb.keeps k) hbs (hlim.keeps k) hget hnx hy ?_ fun h' tk' dx ⟨k', ⟨t1, hx⟩, dn, dne, hns⟩ => ?_
 · show A.depth + 1 < recursionLimit
   exact hroom
 · have old : ∀ b o, hp.get? b = some o → h'.get? b = some o := fun b o e => k' b o (Nat.ne_of_lt (Nat.lt_succ_of_lt (Heap.lt_size e))) (k b o e)
   have z : hp.objs.size + 1 + 1 ≤ dx := by
     first
       | (simpa only [Heap.size_push] using dn)
       | exact dn
       | (have q := dn; rw [Heap.size_push, Heap.size_push] at q; exact q)
   exact ⟨rfl, hq h' tk' (hp.objs.size + 1) dx ⟨old, Nat.le_succ _, ⟨_, _, hx, rfl, rfl, rfl, rfl⟩, Nat.le_trans (Nat.le_trans (Nat.le_succ _) (Nat.le_succ _)) z, dne, hns⟩⟩
end
end ErrX
end PySem
namespace L2
open PySem PySem.Spec PyProof.Rows
section
variable {X : Cx} {C fI : Addr} {cn qual : Str} {st : Stmt}
end
end L2
namespace L2
open PySem PySem.Spec PyProof.Rows
section
variable {X : Cx} {CX : CXT} {k n : Nat} {f C : Addr} {fd : FuncData} {ps ks : List Str} {sp : Sp} {E : St → XK} {x : Str} {p pos : Pos} {e : Expr} {es : List Expr} {kws : List Keyword} {t tk : TA} {g : List Value → List Value → List Value} {gV : List V → List V → List V} {ds : List Value} {dvs : List V}
end
structure XisC (K : PySem.W.Frag) (C : Addr) : Prop where
 cl : (PySem.W.clsIn K C).isSome = true
 ga : PySem.W.findIn K (.ref C) "__getattribute__" = some (some (.builtin "BaseException.__getattribute__"))
 gg : PySem.W.findIn K (.ref C) "__getattr__" = some none
 ex : PySem.W.subIn K (.ref C) (.type "BaseException") = some true
 ca : PySem.W.findIn K (.ref C) "__class__" = some (some (.builtin "object.__class__"))
 gt : PySem.W.specialIn K (.builtin "object.__class__") "__get__" = some (some (.builtin "getset_descriptor.__get__"))
 tk : PySem.W.takesIn K (.builtin "object.__class__") = some true
 ob : PySem.W.mroIn K C (.type "object") = some true
section
variable {X : Cx} {a C : Addr} {oe : Obj} {cls : Value} {d : Option Addr} {pn : List (Addr × Obj)} {K : PySem.W.Frag}
def rIsEd (K : PySem.W.Frag) (C a : Addr) (cls : Value) (d : Option Addr) : List V → Hp → VK → Prop := fun xs H Q => ∃ (dd : Addr) (fs : List (Str × V)) (c : V) (u : Value) (b : Bool), xs = [.ref a, c] ∧ cls = .ref C ∧ d = some dd ∧ H dd = some (.xd fs) ∧ ClsV c u ∧ PySem.W.kitOne K (.ref C) u = some b ∧ Q (.bl b) H
def rIsEt (K : PySem.W.Frag) (C a : Addr) (cls : Value) (d : Option Addr) : List V → Hp → VK → Prop := fun xs H Q => ∃ (dd : Addr) (fs : List (Str × V)) (tp : Addr) (cs : List V) (us : List Value) (b : Bool), xs = [.ref a, .ref tp] ∧ cls = .ref C ∧ d = some dd ∧ H dd = some (.xd fs) ∧ H tp = some (.tup cs) ∧
 Paired ClsV cs us ∧ PySem.W.kitAny K (.ref C) us = some b ∧ Q (.bl b) H
theorem exc_inst {pins : List (Addr × Obj)} {σ : St} {H : Hp} {s : Shared} {dd : Addr} {fs : List (Str × V)} (hz : Zc (.ref C) (some dd) oe) (hf : ∃ vs, oe.data = .fields vs) (I : Inv (X.suite a ((a, oe) :: pn)) pins σ H s) (ea : H dd = some (.xd fs)) :
   ∃ od, PySem.W.InstAt s.heap a oe C (some od) := by
 obtain ⟨ha, _⟩ := I.pin (a, oe) (List.mem_append_left _ List.mem_cons_self)
 obtain ⟨vs, hd⟩ := hf
 have hx : ObjOk X.prog X.w H s.heap dd (.xd fs) := I.hok dd _ ea
 obtain ⟨mA, hns, hr⟩ := hx
 obtain ⟨od, ho, hl⟩ := lookIn_ns hns
 exact ⟨od, ha, hz.1, by unfold PySem.W.notCls; rw [hd] <;> rfl, by rw [hz.2]; exact ho⟩
theorem call_isEd (T : XisC K C) (hz : Zc cls d oe) (hf : ∃ vs, oe.data = .fields vs) (eK : X.K = K := by rfl) : CallR (X.suite a ((a, oe) :: pn)) (.builtin "isinstance") (rIsEd K C a cls d) := by
 subst eK
 intro pins s σ H xs us Q I r h
 obtain ⟨dd, fs, c, u, b, rfl, rfl, rfl, ea, k, e, q⟩ := h
 obtain ⟨u1, u2, rfl, r1, r2⟩ := vals2 r
 have e2 := k.eq r2
 subst e2
 obtain rfl : u1 = Value.ref a := r1
 obtain ⟨od, J⟩ := exc_inst hz hf I ea
 exact PySem.W.kia_one (PySem.W.kitx_exc T.cl T.ga T.gg T.ex T.ca T.gt T.tk T.ob) I.kIn J e (fun z => nomatch z) fun tk => ⟨.bl b, H, I.tok tk, rfl, q⟩
theorem call_isEt (T : XisC K C) (hz : Zc cls d oe) (hf : ∃ vs, oe.data = .fields vs) (eK : X.K = K := by rfl) : CallR (X.suite a ((a, oe) :: pn)) (.builtin "isinstance") (rIsEt K C a cls d) := by
 subst eK
 intro pins s σ H xs us Q I r h
 obtain ⟨dd, fs, tp, cs, ws, b, rfl, rfl, rfl, ea, hT, k, e, q⟩ := h
 obtain ⟨u1, u2, rfl, r1, r2⟩ := vals2 r
 cases (show u2 = Value.ref tp from r2)
 obtain rfl : u1 = Value.ref a := r1
 obtain ⟨od, J⟩ := exc_inst hz hf I ea
 obtain ⟨_, its, rv, o, h1, h2, n, h3⟩ := (show ObjOk X.prog X.w H s.heap tp (.tup cs) from I.hok tp _ hT)
 have e3 := ClsV.all k rv
 subst e3
 obtain ⟨oc, od', dt, sl⟩ := o
 simp only at h2 h3
 subst h2 h3
 exact PySem.W.kia_tup (PySem.W.kitx_exc T.cl T.ga T.gg T.ex T.ca T.gt T.tk T.ob) I.kIn J h1 e (fun z => nomatch z) fun tk => ⟨.bl b, H, I.tok tk, rfl, q⟩
end
end L2
namespace G
open PySem PySem.Spec PyProof.Rows L2
section
variable {K : PySem.W.Frag} {σ : L2.St} {H : Hp} {Q : VK} {C : Addr} {D : Ends} {t2 : TS} {te : TE} {a dd : Addr} {fs : List (Str × V)}
theorem w_callS {sp : Sp} {E : L2.St → XK} {t : TA} (h : t σ H fun vs H1 => sp vs H1 Q (E σ)) : tCallS sp E t σ H Q := h
theorem q_try {t : TS} (h : t { D with nx := t2 D } σ H) : tSeq t t2 D σ H := h
theorem w_exc {c : Value} {i : Nat} {ts : Addr → Value → Option Addr → TS} {Wout : WX} {d : Option Addr} (e : PySem.W.exmOne K (.ref C) c = some true)
   (k : ∀ a, H a = none → ts a (.ref C) d { nx := fun σ' H' => D.nx (σ'.set i none) H', rt := D.rt, bk := fun σ' H' => D.bk (σ'.set i none) H', ct := fun σ' H' => D.ct (σ'.set i none) H' } (σ.set i (some (.ref a))) H) : WE (wAs K c i ts Wout D) σ (.ref C) d H :=
 ⟨true, e, fun _ a na => k a na, fun z => nomatch z⟩
theorem val_isE {c : V} {u : Value} {b : Bool} (h : Val te σ H (.ref a)) (hd : H dd = some (.xd fs)) (k : ClsV c u) (e : PySem.W.kitOne K (.ref C) u = some b) : Val (tCB (rIsEd K C a (.ref C) (some dd)) (tCons te (tCons (tC c) tNil))) σ H (.bl b) := fun Q q =>
 h _ ⟨dd, fs, c, u, b, rfl, rfl, rfl, hd, k, e, q⟩
theorem q_isT {ta : TA} {cs : List V} {us : List Value} {t1 t3 : TS} (h : Val te σ H (.ref a)) (hd : H dd = some (.xd fs)) (hv : VaA ta σ H cs) (k : Paired ClsV cs us) (e : PySem.W.kitAny K (.ref C) us = some false) (hl : cs.length ≤ 100)
   (kk : ∀ H', Chg [] H H' → H' dd = some (.xd fs) → t3 { D with nx := t2 D } σ H') : tSeq (tIfS (tB (tCB (rIsEt K C a (.ref C) (some dd)) (tCons te (tCons (tTup ta) tNil)))) t1 t3) t2 D σ H := by
 refine h _ (hv _ ⟨by rw [sizeLine_eq]; omega, fun p hp => ?_⟩)
 have hne : dd ≠ p := fun z => by rw [z, hp] at hd; cases hd
 have hd' : (upd H p (.tup cs)) dd = some (.xd fs) := by rw [upd_ne hne]; exact hd
 refine ⟨dd, fs, p, cs, us, false, rfl, rfl, rfl, hd', upd_same, k, e, ?_⟩
 exact ⟨false, rfl, kk _ (Chg.lay hp trivial) hd'⟩
theorem cp_cons {cs : List V} {us : List Value} {A : Addr} (h : Paired ClsV cs us) : Paired ClsV (.ref A :: cs) (.ref A :: us) := .cons (.own A) h
end
end G
namespace G
open PySem PySem.Spec PyProof.Rows L2
abbrev FnN : Type := Option (Str × Str × Arguments × FuncBody × Scope × Addr × List Str × Addr)
def fnN (K : PySem.W.Frag) (p : Str × Option Str) : FnN := match K.lookup (He.fAd K p) with
 | some ⟨_, _, .func fd, _⟩ => some (fd.name, fd.qualname, fd.params, fd.body, fd.scope, fd.globals, fd.closure.map (·.1), fd.builtins)
 | _ => none
structure ErrD where
 x : Str
 qual : Str
 st : Stmt
def ErrD.val (d : ErrD) : FnN := some ("__init__", d.qual, defArgs d.st, .stmts (defBody d.st), defScope d.st, mainGlobals, ["__class__"], builtinsNs)
def excB (K : PySem.W.Frag) (C : Addr) : Bool := match K.lookup C with
 | some ⟨.type c, _, .cls cd, sl⟩ => decide (c = "type") && (match cd.mro with
   | v :: bm => decide (v = .ref C) && refsVEb bm
   | _ => false) && cd.hasDict && !cd.hasDel && (match sl.toList with
   | [_, _, _, _, some (.builtin i), _] => decide (i = "ValueError.__new__")
   | _ => false)
 | _ => false
where refsVEb (l : List Value) : Bool := PySem.HandSPX.refsVE l
theorem excB_ok {K : PySem.W.Frag} {C : Addr} (h : excB K C = true) : ∃ nm q N bs bm sn sub ab col dd k0 k1 k2 k3 k5, K.lookup C = some (excClassObj nm q C N bs bm true sn sub ab col dd k0 k1 k2 k3 k5 "ValueError.__new__") ∧ PySem.HandSPX.refsVE bm = true := by
 unfold excB at h
 cases e : K.lookup C with
 | none => rw [e] at h; cases h
 | some o =>
   obtain ⟨oc, od, dt, sl⟩ := o
   rw [e] at h
   cases oc with
   | type c =>
     cases dt with
     | cls cd =>
       obtain ⟨h, h5⟩ := He.ba h
       obtain ⟨h, h4⟩ := He.ba h
       obtain ⟨h, h3⟩ := He.ba h
       obtain ⟨h1, h2⟩ := He.ba h
       obtain ⟨nm, bs, mro, ns, qn, hdc, sn, sub, ab, col, hdl⟩ := cd
       have e1 : c = "type" := of_decide_eq_true h1
       subst e1
       cases mro with
       | nil => cases h2
       | cons v bm =>
         obtain ⟨h6, h7⟩ := He.ba h2
         have e6 := of_decide_eq_true h6
         subst e6
         have e3 : hdc = true := h3
         subst e3
         have e4 : hdl = false := by cases hdl with
           | false => rfl
           | true => cases h4
         subst e4
         obtain ⟨sl⟩ := sl
         rcases sl with _ | ⟨k0, _ | ⟨k1, _ | ⟨k2, _ | ⟨k3, _ | ⟨k4, _ | ⟨k5, _ | ⟨k6, _⟩⟩⟩⟩⟩⟩⟩
         all_goals try (cases h5; done)
         all_goals try (cases k4 with | none => cases h5 | some v4 => cases v4 <;> cases h5)
         cases k4 with
         | none => cases h5
         | some v4 =>
           cases v4 with
           | builtin i =>
             have e5 : i = "ValueError.__new__" := of_decide_eq_true h5
             subst e5
             exact ⟨nm, qn, ns, bs, bm, sn, sub, ab, col, od, k0, k1, k2, k3, k5, rfl, h7⟩
           | _ => cases h5
     | _ => cases h
   | _ => cases dt <;> cases h
def valB (v w : Option (Option Value)) : Bool := decide (v = w)
def errC (K : PySem.W.Frag) (C fI : Addr) : Bool :=
 excB K C && (valB (PySem.W.findIn K (.ref C) "__setattr__") (some (some (.builtin "object.__setattr__"))) && (valB (PySem.W.findIn K (.ref C) "__getattribute__") (some (some (.builtin "BaseException.__getattribute__"))) &&
 (valB (PySem.W.findIn K (.ref C) "__getattr__") (some none) && (valB (PySem.W.findIn K (.ref C) "part") (some none) && (valB (PySem.W.findIn K (.ref C) "__init__") (some (some (.ref fI))) &&
 (decide (PySem.W.typeIn K (.ref fI) = some (.type "function")) && (PySem.W.keepIn K (.ref C) && (decide (PySem.W.subIn K (.ref C) (.type "BaseException") = some true) && (decide (PySem.W.subIn K (.ref C) (.type "ValueError") = some true) &&
 (decide (PySem.W.typeIn K (.ref C) = some (.type "type")) && (PySem.W.hasDictIn K C && (decide (PySem.W.mroIn K C (.ref C) = some true) && (valB (PySem.W.ks_superIn K C C "__init__") (some (some (.builtin "ValueError.__init__"))) &&
 (valB (PySem.W.nsIn K cStatics "thirdparty.any") (some none) && ((PySem.W.clsIn K C).isSome && (valB (PySem.W.findIn K (.ref C) "__class__") (some (some (.builtin "object.__class__"))) &&
 (valB (PySem.W.specialIn K (.builtin "object.__class__") "__get__") (some (some (.builtin "getset_descriptor.__get__"))) && (decide (PySem.W.takesIn K (.builtin "object.__class__") = some true) && decide (PySem.W.mroIn K C (.type "object") = some true)))))))))))))))))))
def fileB (file : Str) : Option Value → Bool
 | some (.str f _) => file == f
 | _ => false
def errF (K : PySem.W.Frag) (C fI : Addr) (qual file : Str) : Bool := match K.lookup fI with
 | some ⟨_, _, .func fd, _⟩ => (match fd.defaults, fd.kwdefaults, fd.closure, fd.code with
   | .none, .none, [(_, cc)], .ref cda => PySem.W.codeIn K (.ref cda) qual && ((match K.lookup cda with
     | some ⟨_, _, .fields vs, _⟩ => fileB file vs[2]?
     | _ => false) && (match K.lookup cc with
     | some ⟨_, _, .cell (some v), _⟩ => decide (v = .ref C)
     | _ => false))
   | _, _, _, _ => false)
 | _ => false
def ErrD.ok (K : PySem.W.Frag) (file : Str) (d : ErrD) : Bool := errC K (He.ga K d.x) (He.fAd K (d.x, some "__init__")) && errF K (He.ga K d.x) (He.fAd K (d.x, some "__init__")) d.qual file
theorem errF_ok {K : PySem.W.Frag} {C : Addr} {p : Str × Option Str} {file : Str} {d : ErrD} (e : fnN K p = d.val) (h : errF K C (He.fAd K p) d.qual file = true) :
   ∃ (oc : Value) (od : Option Addr) (doc pm : Value) (an : Option Addr) (cda : Addr) (ct : Value) (cc : Addr) (osl : Array (Option Value)),
   K.lookup (He.fAd K p) = some ⟨oc, od, .func (PySem.W.ksFn "__init__" d.qual (L2.defArgs d.st) (L2.defBody d.st) (L2.defScope d.st) .none .none doc pm an (.ref cda) ct cc), osl⟩ ∧ PySem.W.codeIn K (.ref cda) d.qual = true ∧
   (∃ (ccl : Value) (cdd : Option Addr) (vs : Array Value) (ccs : Array (Option Value)) (file' : Str) (tf : Tok), K.lookup cda = some ⟨ccl, cdd, .fields vs, ccs⟩ ∧ vs[2]? = some (.str file' tf) ∧ (file == file') = true) ∧
   ∃ (cl : Value) (cld : Option Addr) (csl : Array (Option Value)), K.lookup cc = some ⟨cl, cld, .cell (some (.ref C)), csl⟩ := by
 unfold errF at h
 unfold fnN at e
 cases q : K.lookup (He.fAd K p) with
 | none => rw [q] at h; cases h
 | some o =>
   obtain ⟨oc, od, dt, osl⟩ := o
   rw [q] at h e
   cases dt with
   | func fd =>
     obtain ⟨n1, n2, n3, n4, n5, n6, n7, n8, n9, n10, n11, n12, n13, n14, n15⟩ := fd
     have e2 : (some (n1, n2, n3, n4, n5, n6, n7.map (·.1), n15) : FnN) = some (("__init__" : Str), d.qual, defArgs d.st, FuncBody.stmts (defBody d.st), defScope d.st, mainGlobals, [("__class__" : Str)], builtinsNs) := e
     simp only [Option.some.injEq, Prod.mk.injEq] at e2
     obtain ⟨h1, h2, h3, h4, h5, h6, h7, h8⟩ := e2
     subst h1 h2 h3 h4 h5 h6 h8
     cases n8 with
     | none =>
       cases n9 with
       | none =>
         rcases n7 with _ | ⟨⟨nc, cc⟩, _ | ⟨_, _⟩⟩
         · cases h
         · cases n13 with
           | ref cda =>
             have en : nc = ("__class__" : Str) := by
               have z : [nc] = [("__class__" : Str)] := h7
               exact (List.cons.inj z).1
             subst en
             obtain ⟨c1, c2⟩ := He.ba h
             obtain ⟨c3, c4⟩ := He.ba c2
             refine ⟨oc, od, n10, n11, n12, cda, n14, cc, osl, rfl, c1, ?_, ?_⟩
             · cases q2 : K.lookup cda with
               | none => rw [q2] at c3; cases c3
               | some o2 =>
                 obtain ⟨a1, a2, a3, a4⟩ := o2
                 rw [q2] at c3
                 cases a3 with
                 | fields vs =>
                   have c5 : fileB file vs[2]? = true := c3
                   cases q3 : vs[2]? with
                   | none => rw [q3] at c5; cases c5
                   | some v =>
                     rw [q3] at c5
                     cases v with
                     | str f t => exact ⟨a1, a2, vs, a4, f, t, rfl, q3, c5⟩
                     | _ => cases c5
                 | _ => cases c3
             · cases q2 : K.lookup cc with
               | none => rw [q2] at c4; cases c4
               | some o2 =>
                 obtain ⟨a1, a2, a3, a4⟩ := o2
                 rw [q2] at c4
                 cases a3 with
                 | cell v =>
                   cases v with
                   | none => cases c4
                   | some v =>
                     have z : v = .ref C := of_decide_eq_true c4
                     subst z
                     exact ⟨a1, a2, a4, rfl⟩
                 | _ => cases c4
           | _ => cases h
         · cases h
       | _ => cases h
     | _ => cases n9 <;> cases h
   | _ => cases h
structure ErrK (K : PySem.W.Frag) (C : Addr) : Prop where
 xf : XfC K C
 xi : XisC K C
 np : PySem.W.findIn K (.ref C) "part" = some none
 ty : PySem.W.typeIn K (.ref C) = some (.type "type")
abbrev AlX : Type := He.AlD × Bool × List FnN
structure SaysX (fa : List He.Fa) (fn : List He.DefD) (ex : PySem.W.Frag → Bool) (file : Str) (er : List ErrD) (K : PySem.W.Frag) : Prop where
 d : He.SaysD fa fn K
 e : ex K = true
 a : er.all (fun d => d.ok K file) = true
 m : (er.map fun d => fnN K (d.x, some "__init__")) = er.map ErrD.val
theorem SaysX.err {fa : List He.Fa} {fn : List He.DefD} {ex : PySem.W.Frag → Bool} {file : Str} {er : List ErrD} {K : PySem.W.Frag} (c : SaysX fa fn ex file er K) (i : Nat) {d : ErrD} (h : er[i]? = some d := by rfl) : fnN K (d.x, some "__init__") = d.val ∧ d.ok K file = true := by
 refine ⟨?_, List.all_eq_true.mp c.a d (List.mem_of_getElem? h)⟩
 have e2 : (er.map fun d => fnN K (d.x, some "__init__"))[i]? = (er.map ErrD.val)[i]? := by rw [c.m]
 rw [List.getElem?_map, List.getElem?_map, h] at e2
 exact Option.some.inj e2
end G
namespace G
open PySem PySem.Spec PyProof.Rows L2
section
variable {K : PySem.W.Frag} {H : Hp} {F : List Addr} {v : V}
variable {x y : Option (List Nat)} {u : V} {F1 F2 : List Addr} {Q : VK}
end
end G
namespace L2
open PySem PySem.Spec PyProof.Rows
structure PMc (X : Cx) (cs : List MatchCase) (t : Str → TS) : Prop where
 run : ∀ (pins : List (Addr × Obj)) (s : Shared) (σ : St) (H : Hp) (D : Ends) (y : Str) (u : Value) (first : Bool), Inv X pins σ H s → RelV (.str y) u → t y D σ H → wpAny (model X.prog X.w) X.A (matchCases cs X.env u first) (SP X pins D) X.xe s
section
variable {X : Cx} {e : Expr} {te : TE} {pos p1 p2 : Pos} {cs : List MatchCase} {tm tr : Str → TS} {tb : TS} {body : List Stmt} {c : Str} {j : Option Str}
theorem mc_nil : PMc X [] (fun _ => tNext) := ⟨fun _ _ σ H _ _ _ _ I _ h => wpAny_pure ⟨σ, H, I, h⟩⟩
def tCase (c : Str) (tb : TS) (tr : Str → TS) : Str → TS := fun y D σ H => if y = c then tb D σ H else tr y D σ H
theorem mc_cons {k} (hb : PSs X body tb) (hr : PMc X cs tr) : PMc X (⟨.MatchValue (.Constant (.str c) k p1) p2, none, body⟩ :: cs) (tCase c tb tr) := by
 refine ⟨fun pins s σ H D y u first I r h => ?_⟩
 unfold matchCases
 refine wpAny_bind (wpAny_holding ?_)
 unfold matchPattern
 refine wpAny_bind (thn (pe_str.run pins s σ H (fun v H1 => v = .str c ∧ H1 = H) I ⟨rfl, rfl⟩) fun v s1 hv => ?_)
 obtain ⟨x1, H1, I1, rv, e1, e2⟩ := hv
 subst e1 e2
 refine wpAny_bind (wpAny_standAt ?_)
 refine wpAny_bind (thn (op_eq pins s1 σ _ (.str y) (.str c) u v (fun b H2 => b = .bl (decide (V.str y = V.str c)) ∧ H2 = H1) I1 r rv ⟨rfl, rfl, rfl⟩) fun b s2 hb2 => ?_)
 obtain ⟨x2, H2, I2, rb, e3, e4⟩ := hb2
 subst e3 e4
 obtain rfl : b = Value.bool (decide (V.str y = V.str c)) := rb
 refine wpAny_bind (wpAny_truthy_bool ?_)
 by_cases hc : y = c
 · subst hc
   rw [decide_eq_true rfl, if_pos rfl]
   refine wpAny_pure ?_
   have h' : tb D σ H2 := by
     have : tCase y tb tr y D σ H2 := h
     unfold tCase at this
     rw [if_pos rfl] at this
     exact this
   refine wpAny_bind (wpAny_holding (wpAny_pure (wpAny_bind (wpAny_pure ?_))))
   show wpAny _ _ (if true = true then execs body X.env else matchCases cs X.env u false) _ _ _
   rw [if_pos rfl]
   exact hb.run pins s2 σ H2 D I2 h'
 · have hne : ¬ (V.str y = V.str c) := fun z => hc (V.str.inj z)
   rw [decide_eq_false hne, if_neg Bool.false_ne_true]
   refine wpAny_pure ?_
   have h' : tr y D σ H2 := by
     have : tCase c tb tr y D σ H2 := h
     unfold tCase at this
     rw [if_neg hc] at this
     exact this
   exact hr.run pins s2 σ H2 D y u false I2 r h'
def tMatch (te : TE) (tm : Str → TS) : TS := fun D σ H => te σ H fun x H1 => ∃ y, x = .str y ∧ tm y D σ H1
theorem ps_match (he : PE X e te) (hm : PMc X cs tm) : PS X (.Match e cs pos) (tMatch te tm) := by
 refine ⟨fun pins s σ H D I h => ?_⟩
 show wpAny _ _ (do standAt pos; let v ← eval e X.env; matchCases cs X.env v true) _ _ _
 refine wpAny_bind (wpAny_standAt (wpAny_bind (thn (he.run pins s σ H _ I h) fun u s1 hh => ?_)))
 obtain ⟨x, H1, I1, rx, y, rfl, q⟩ := hh
 exact hm.run pins s1 σ H1 D y u true I1 rx q
end
end L2
namespace G
open PySem PySem.Spec PyProof.Rows L2
section
variable {K : PySem.W.Frag} {σ : L2.St} {H : Hp} {F : List Addr} {v : V} {Q : VK} {D : Ends} {t2 tb : TS} {te : TE} {tm tr : Str → TS} {α β : Type} {τ : Ty α} {υ : Ty β}
theorem q_match (h : te σ H fun x H1 => ∃ y, x = .str y ∧ tm y { D with nx := t2 D } σ H1) : tSeq (tMatch te tm) t2 D σ H := h
theorem c_case {c : Str} {l y : List Nat} (ec : c = toS l) (h1 : decide (y = l) = true → tb D σ H) (h2 : decide (y = l) = false → tr (toS y) D σ H) : tCase c tb tr (toS y) D σ H := by
 unfold tCase
 by_cases e : y = l
 · rw [if_pos (by rw [e, ec])]; exact h1 (decide_eq_true e)
 · rw [if_neg (fun z => e (toS_inj (z.trans ec)))]; exact h2 (decide_eq_false e)
def ySum (τ : Ty α) (υ : Ty β) : Ty (α ⊕ β) where
 rep K H F v d := match d with
   | .inl a => τ.rep K H F v a
   | .inr b => υ.rep K H F v b
 keep {K H H' F v d} h k := by
   cases d with
   | inl a => exact τ.keep h k
   | inr b => exact υ.keep h k
 dom {K H F v d} h b m := by
   cases d with
   | inl a => exact τ.dom h b m
   | inr c => exact υ.dom h b m
theorem sum_l {a : α} (r : τ.rep K H F v a) : (ySum τ υ).rep K H F v (.inl a) := r
theorem sum_r {b : β} (r : υ.rep K H F v b) : (ySum τ υ).rep K H F v (.inr b) := r
theorem sum_L {d : α ⊕ β} {a : α} (r : (ySum τ υ).rep K H F v d) (h : Mi.asL d = some a) : τ.rep K H F v a := by
 cases d with
 | inl x => cases h; exact r
 | inr x => cases h
theorem sum_R {d : α ⊕ β} {b : β} (r : (ySum τ υ).rep K H F v d) (h : Mi.asR d = some b) : υ.rep K H F v b := by
 cases d with
 | inl x => cases h
 | inr x => cases h; exact r
theorem e_tupl {vs : List V} {xs : List α} (z : vs.length ≤ Mi.big) (r : Paired (fun u x => τ.rep K H [] u x) vs xs) (k : ∀ p H', H p = none → Chg [] H H' → (yTupL τ).rep K H' [] (.ref p) xs → Q (.ref p) H') : TupG vs H Q :=
 ⟨sz z, fun p np => k p _ np (Chg.lay np trivial) ⟨p, vs, rfl, rfl, .inl (.inl upd_same), Paired.mapP r fun u x q => τ.keep q fun b o e _ => by rw [upd_ne (ne_of_none e np)]; exact e⟩⟩
end
end G
namespace L2
open PySem PySem.Spec PyProof.Rows
section
variable {X : Cx} {cs : List MatchCase} {tr : Str → TS} {tb : TS} {body : List Stmt} {c d : Str} {p1 p2 p3 p4 p5 : Pos}
end
end L2
namespace G
open PySem PySem.Spec PyProof.Rows L2
section
variable {K : PySem.W.Frag} {σ : L2.St} {H : Hp} {F F1 F2 : List Addr} {v u : V} {Q : VK} {te ta tb : TE} {α β : Type} {τ : Ty α} {υ : Ty β}
theorem log_ok {i : Int} (h : i.natAbs < 10 ^ 15) : i.natAbs.log2 < 1920 := by
 by_cases h0 : i.natAbs = 0
 · rw [h0]; decide
 · exact Nat.lt_of_lt_of_le ((Nat.log2_lt h0).mpr (Nat.lt_of_lt_of_le h (by decide : 10 ^ 15 ≤ 2 ^ 50))) (by decide)
theorem sOfI_ok {i : Int} {y : List Nat} (h : Mi.sOfI i = some y) : i.natAbs.log2 < 1920 ∧ y = Mi.sInt i := by
 unfold Mi.sOfI at h
 split at h
 · rename_i hl
   exact ⟨log_ok hl, (Option.some.inj h).symm⟩
 · cases h
end
end G
namespace L2
open PySem PySem.Spec PyProof.Rows
section
variable {X : Cx} {cs : List MatchCase} {tr : V → TS} {tb : TS} {body : List Stmt} {c : Str} {p1 p2 p3 pos : Pos} {e : Expr} {te : TE} {tm : V → TS}
theorem pr_len {α β : Type} {R : α → β → Prop} {l : List α} {m : List β} (h : Paired R l m) : l.length = m.length := by
 induction h with
 | nil => rfl
 | cons _ _ ih => rw [List.length_cons, List.length_cons, ih]
end
end L2
namespace G
open PySem PySem.Spec PyProof.Rows L2
section
variable {K : PySem.W.Frag} {σ : L2.St} {H : Hp} {F F1 F2 : List Addr} {v u : V} {Q : VK} {D : Ends} {t2 tb : TS} {te ta tc : TE} {tm tr : V → TS} {α : Type} {τ : Ty α}
abbrev y5 : Ty Mi.U5 := ySum yInt (ySum yStr (ySum yBool (ySum (yTupL yInt) (yTupL yBool))))
abbrev y2 : Ty (Int ⊕ Bool) := ySum yInt yBool
end
end G
namespace G
open PySem PySem.Spec PyProof.Rows L2
def FrzG (Q : VK) (x : V) (H1 : Hp) : Prop := ∃ a xs, x = .ref a ∧ H1 a = some (.lst xs) ∧ ∀ o, Q x (upd H1 a (.frz o (.lst xs)))
def tFrz (te : TE) : TE := fun σ H Q => te σ H (FrzG Q)
theorem pe_frz {X : Cx} {e : Expr} {te : TE} (he : PE X e te) : PE X e (tFrz te) := by
 refine ⟨fun pins s σ H Q I h => ?_⟩
 refine thn (he.run pins s σ H _ I h) fun u s1 ⟨x, H1, I1, r1, a, xs, ex, ha, q⟩ => ?_
 obtain ⟨z, its, n, rv, e⟩ := (show ObjOk X.prog X.w H1 s1.heap a (.lst xs) from I1.hok a _ ha)
 refine ⟨x, upd H1 a (.frz _ (.lst xs)), ?_, r1, q { cls := .type "list", data := .seq its.toArray n }⟩
 have ne : ∀ b u, H1 b = some u → u ≠ .lst xs → b ≠ a := fun b u hb hu z => by rw [z, ha] at hb; exact hu (Option.some.inj hb).symm
 refine I1.un (t' := s1.toks) (h' := s1.heap) ⟨fun b o q _ _ _ => q, fun b o q _ _ _ => ⟨o.slots, q⟩, fun b o q n _ => ?_, fun b o q _ => ⟨o, q⟩, fun b ys q => ?_, fun b o u q => ?_, fun b ps q => ⟨#[], ?_⟩⟩ fun b u q => ?_
 · rw [upd_ne (fun z => by rw [z, ha] at n; cases n)]; exact n
 · rw [upd_ne (ne b _ q (fun z => nomatch z))]; exact q
 · rw [upd_ne (ne b _ q (fun z => nomatch z))]; exact q
 · rw [upd_ne (ne b _ q (fun z => nomatch z)), q]; simp
 · by_cases hb : b = a
   · subst hb; rw [upd_same] at q; cases q
     exact ⟨e, z, its, n, rv, e⟩
   · rw [upd_ne hb] at q
     exact (I1.hok b u q).stay (fun c v _ q => q) (fun c q => by rw [upd_ne (ne c _ q (fun z => nomatch z))]; exact q) fun c ys q => by rw [upd_ne (ne c _ q (fun z => nomatch z))]; exact q
def yFl {α : Type} (τ : Ty α) : Ty (List α) where
 rep K H F v xs := F = [] ∧ ∃ a vs o, v = .ref a ∧ H a = some (.frz o (.lst vs)) ∧ Paired (fun u x => τ.rep K H [] u x) vs xs
 keep {K H H' F v xs} h k := by
   obtain ⟨f, a, vs, o, e, g, r⟩ := h
   exact ⟨f, a, vs, o, e, k a _ g (.inr trivial), Paired.mapP r fun u x q => τ.keep q fun b o hb z => k b o hb (z.elim (fun y => nomatch y) .inr)⟩
 dom {K H F v xs} h b m := by
   rw [h.1] at m; cases m
section
variable {K : PySem.W.Frag} {σ σ' : L2.St} {H : Hp} {F F1 F2 Fu : List Addr} {ta tb te : TE} {tt : TT} {v u x y : V} {i j : Int} {α β : Type} {τ : Ty α} {υ : Ty β} {Q : VK} {D : Ends} {t1 t2 : TS} {g : TG} {ws : List Nat}
theorem w_frz (h : te σ H (FrzG Q)) : tFrz te σ H Q := h
theorem e_frz {xs : List α} (r : (yLst τ).rep K H F v xs) (k : ∀ H', Chg F H H' → (yFl τ).rep K H' [] v xs → Q v H') : FrzG Q v H := by
 obtain ⟨a, vs, e, f, g, q⟩ := r
 subst f
 have c : ∀ o, Chg [a] H (upd H a (.frz o (.lst vs))) := fun o => Chg.wr g (fun z => z)
 exact ⟨a, vs, e, g, fun o => k _ (c o) ⟨rfl, a, vs, o, e, upd_same, Paired.mapP q fun u x z => Ty.fz z (c o)⟩⟩
theorem fl_sq {xs : List α} (r : (yFl τ).rep K H F v xs) : ∃ a vs, v = .ref a ∧ SqL K H a vs ∧ Paired (fun u x => τ.rep K H [] u x) vs xs := by
 obtain ⟨f, a, vs, o, e, g, q⟩ := r
 exact ⟨a, vs, e, .inl (.inr ⟨o, g⟩), q⟩
theorem val_lenF {xs : List α} (r : (yFl τ).rep K H F v xs) (ha : Val ta σ H v) : Val (tCB (rLenQ K) (tCons ta tNil)) σ H (.int (xs.length : Int)) := by
 obtain ⟨a, vs, e, s, q⟩ := fl_sq r
 subst e
 exact fun Q k => ha _ ⟨a, vs, rfl, .inl s, by rw [pr_len q]; exact k⟩
theorem itm_F {xs : List α} {x : α} (r : (yFl τ).rep K H F v xs) (h : Mi.at_ xs i = some x) :
   ∃ u, τ.rep K H [] u x ∧ ∀ {σ : L2.St} {ta tb : TE}, Val ta σ H v → Val tb σ H (.int i) → Val (tOp (rIxL K) ta tb) σ H u := by
 obtain ⟨a, vs, e, s, q⟩ := fl_sq r
 subst e
 obtain ⟨u, e, ru⟩ := pr_at q h
 exact ⟨u, ru, fun ha hb => val_op ha hb fun Q k => ⟨a, vs, i, u, rfl, rfl, s, e, k⟩⟩
theorem itm_FI {xs : List Int} {x : Int} (r : (yFl yInt).rep K H F v xs) (h : Mi.at_ xs i = some x) {σ : L2.St} {ta tb : TE} (ha : Val ta σ H v) (hb : Val tb σ H (.int i)) : Val (tOp (rIxL K) ta tb) σ H (.int x) := by
 obtain ⟨u, ⟨_, rfl⟩, k⟩ := itm_F r h
 exact k ha hb
theorem kc_fl {xs : List β} (r : (yFl υ).rep K H F v xs) (Pv : Addr → Nat → Hp → Prop) (h0 : ∀ D H', H D = none → Chg [] H H' → (yLst τ).rep K H' [D] (.ref D) [] → Pv D 0 H') (hl : ∀ D i H', Pv D i H' → (yFl υ).rep K H' F v xs)
   (hs : ∀ D (i : Nat) (x : β) (u : V) H', xs[i]? = some x → υ.rep K H' [] u x → Pv D i H' → TurnG g tt te ws σ D (Pv D (i + 1)) u H') (hd : ∀ D H', H D = none → Pv D xs.length H' → Q (.ref D) H') :
   ∃ a, v = .ref a ∧ (∃ xs, SqL K H a xs) ∧ CompG (Itl K a) g tt te ws σ H Q := by
 obtain ⟨a, vs, e, s, q⟩ := fl_sq r
 refine ⟨a, e, ⟨vs, s⟩, comp_by (K := K) (τ := τ) xs.length Pv h0 (fun D i H' hi p => ?_) (fun D H' hD p => ?_)⟩
 · obtain ⟨a', vs', e', s', q'⟩ := fl_sq (hl D i H' p)
   obtain rfl : a = a' := by rw [e] at e'; exact V.ref.inj e'
   obtain ⟨u, hu, ru⟩ := pr_get q' (List.getElem?_eq_getElem hi)
   refine ⟨⟨vs', u, s', hu⟩, fun x H2 y => ?_⟩
   obtain ⟨rfl, y⟩ := y
   obtain rfl : x = u := Option.some.inj ((y _ s').symm.trans hu)
   exact hs D i _ _ _ (List.getElem?_eq_getElem hi) ru p
 · obtain ⟨a', vs', e', s', q'⟩ := fl_sq (hl D _ H' p)
   obtain rfl : a = a' := by rw [e] at e'; exact V.ref.inj e'
   exact ⟨⟨vs', s', by rw [pr_len q']; exact Nat.le_refl _⟩, hd D H' hD p⟩
theorem ints_sqF {xs : List Int} (r : (yFl yInt).rep K H F v xs) : ∃ a, v = .ref a ∧ SqL K H a (xs.map V.int) := by
 obtain ⟨a, vs, e, s, q⟩ := fl_sq r
 rw [ints_of q] at s
 exact ⟨a, e, s⟩
end
end G
namespace G
open PySem PySem.Spec PyProof.Rows
end G
namespace L2
open PySem PySem.Spec PyProof.Rows
end L2
namespace G
open PySem PySem.Spec PyProof.Rows L2
section
variable {X : Cx} {K : PySem.W.Frag} {σ σ' : L2.St} {H : Hp} {F F1 F2 Fu : List Addr} {ta tb te : TE} {v u x y : V} {i j : Int} {n : Nat} {α β : Type} {τ : Ty α} {υ : Ty β} {Q : VK} {D : Ends} {t1 t2 : TS} {g : TG} {ws : List Nat}
end
end G
namespace G
open PySem PySem.Spec PyProof.Rows L2
end G
namespace L2
open PySem PySem.Spec PyProof.Rows
end L2
namespace G
open PySem PySem.Spec PyProof.Rows L2
section
variable {K : PySem.W.Frag} {σ σ' : L2.St} {H : Hp} {F F1 F2 Fu : List Addr} {ta tb tc td te : TE} {v u x y : V} {i j k l : Int} {α β : Type} {τ : Ty α} {υ : Ty β} {Q : VK} {c : Bool}
end
end G
namespace G
open PySem PySem.Spec PyProof.Rows L2
section
variable {K : PySem.W.Frag} {σ σ' : L2.St} {H : Hp} {F F1 F2 Fu : List Addr} {ta tb te : TE} {v u x y : V} {i j : Int} {α β : Type} {τ : Ty α} {υ : Ty β} {Q : VK}
def Lst (H : Hp) (a : Addr) (xs : List V) : Prop := H a = some (.lst xs) ∨ ∃ o, H a = some (.frz o (.lst xs))
theorem lst_ok {X : Cx} {pins : List (Addr × Obj)} {σ : L2.St} {s : Shared} {H : Hp} {a : Addr} {xs : List V} (I : Inv X pins σ H s) (h : Lst H a xs) : ∃ (its : List Value) (n : Nat), Vals xs its ∧ xs.length = its.length ∧ s.heap.get? a = some { cls := .type "list", data := .seq its.toArray n } := by
 rcases h with h | ⟨o, h⟩
 · obtain ⟨z, its, n, r, e⟩ := (show ObjOk X.prog X.w H s.heap a (.lst xs) from I.hok a _ h)
   exact ⟨its, n, r, r.length, e⟩
 · obtain ⟨e0, z, its, n, r, e⟩ := (show s.heap.get? a = some o ∧ ObjOk X.prog X.w H s.heap a (.lst xs) from I.hok a _ h)
   exact ⟨its, n, r, r.length, e⟩
section
variable {n m : Nat} {x y : α} {w' : V}
end
end
end G
namespace G
open PySem PySem.Spec PyProof.Rows L2
section
variable {K : PySem.W.Frag} {σ σ' : L2.St} {H H' : Hp} {F F1 F2 Fu : List Addr} {ta tb te : TE} {v u x y : V} {i j : Int} {α β : Type} {τ : Ty α} {υ : Ty β} {Q : VK} {D : Ends}
end
end G
namespace G
open PySem PySem.Spec PyProof.Rows L2
section
variable {K : PySem.W.Frag} {σ σ' : L2.St} {H H' : Hp} {F F1 F2 Fu : List Addr} {ta tb te : TE} {v u x y : V} {i j : Int} {α β : Type} {τ : Ty α} {υ : Ty β} {Q : VK} {D : Ends}
end
end G
namespace G
open PySem PySem.Spec PyProof.Rows L2
section
variable {K : PySem.W.Frag} {σ σ' : L2.St} {H : Hp} {F F1 F2 Fu G : List Addr} {ta tb te : TE} {v u x y e : V} {i j : Int} {α β : Type} {τ : Ty α} {υ : Ty β} {Q : VK} {D : Ends} {nx : L2.St → Hp → Prop}
end
end G
namespace L2
open PySem PySem.Spec PyProof.Rows
end L2
namespace G
open PySem PySem.Spec PyProof.Rows L2
section
variable {X : Cx} {K : PySem.W.Frag} {σ σ' : L2.St} {H : Hp} {F F1 F2 Fu : List Addr} {ta tb te : TE} {v u x y : V} {i j : Int} {n : Nat} {α β : Type} {τ : Ty α} {υ : Ty β} {Q : VK} {D : Ends} {t1 t2 : TS} {g : TG} {ws : List Nat}
end
end G
namespace L2
open PySem PySem.Spec PyProof.Rows
end L2
namespace G
open PySem PySem.Spec PyProof.Rows L2
section
variable {K : PySem.W.Frag} {σ σ' : L2.St} {H : Hp} {F F1 F2 Fu : List Addr} {ta tb te : TE} {v u x y : V} {i j : Int} {α β : Type} {τ : Ty α} {υ : Ty β} {Q : VK} {D : Ends}
end
end G
namespace G
open PySem PySem.Spec PyProof.Rows L2
theorem inv_frz {X : Cx} {pins : List (Addr × Obj)} {σ : L2.St} {H1 : Hp} {s1 : Shared} {a : Addr} {xs : List V} (I1 : Inv X pins σ H1 s1) (ha : H1 a = some (.lst xs)) : ∃ o, Inv X pins σ (upd H1 a (.frz o (.lst xs))) s1 := by
 obtain ⟨z, its, n, rv, e⟩ := (show ObjOk X.prog X.w H1 s1.heap a (.lst xs) from I1.hok a _ ha)
 refine ⟨{ cls := .type "list", data := .seq its.toArray n }, ?_⟩
 have ne : ∀ b u, H1 b = some u → u ≠ .lst xs → b ≠ a := fun b u hb hu z => by rw [z, ha] at hb; exact hu (Option.some.inj hb).symm
 refine I1.un (t' := s1.toks) (h' := s1.heap) ⟨fun b o q _ _ _ => q, fun b o q _ _ _ => ⟨o.slots, q⟩, fun b o q n _ => ?_, fun b o q _ => ⟨o, q⟩, fun b ys q => ?_, fun b o u q => ?_, fun b ps q => ⟨#[], ?_⟩⟩ fun b u q => ?_
 · rw [upd_ne (fun z => by rw [z, ha] at n; cases n)]; exact n
 · rw [upd_ne (ne b _ q (fun z => nomatch z))]; exact q
 · rw [upd_ne (ne b _ q (fun z => nomatch z))]; exact q
 · rw [upd_ne (ne b _ q (fun z => nomatch z)), q]; simp
 · by_cases hb : b = a
   · subst hb; rw [upd_same] at q; cases q
     exact ⟨e, z, its, n, rv, e⟩
   · rw [upd_ne hb] at q
     exact (I1.hok b u q).stay (fun c v _ q => q) (fun c q => by rw [upd_ne (ne c _ q (fun z => nomatch z))]; exact q) fun c ys q => by rw [upd_ne (ne c _ q (fun z => nomatch z))]; exact q
def GFz (P : Hp → Prop) : List Addr → Hp → Prop
 | [], H => P H
 | a :: as, H => ∃ xs, H a = some (.lst xs) ∧ ∀ o, GFz P as (upd H a (.frz o (.lst xs)))
theorem inv_gfz {X : Cx} {pins : List (Addr × Obj)} {σ : L2.St} {s1 : Shared} {P : Hp → Prop} : ∀ {as : List Addr} {H : Hp}, Inv X pins σ H s1 → GFz P as H → ∃ H', Inv X pins σ H' s1 ∧ P H'
 | [], H, I, h => ⟨H, I, h⟩
 | a :: as, H, I, ⟨xs, ha, h⟩ => by
   obtain ⟨o, I2⟩ := inv_frz I ha
   exact inv_gfz I2 (h o)
def tGz (t : TS) : TS := fun D σ H => ∃ as, GFz (fun H' => t D σ H') as H
def tPost (t : TS) : TS := fun D σ H => t { D with nx := fun σ' H' => ∃ as, GFz (fun H2 => D.nx σ' H2) as H' } σ H
theorem ps_post {X : Cx} {st : Stmt} {t : TS} (h : PS X st t) : PS X st (tPost t) := ⟨fun pins s σ H D I hq => thn (h.run pins s σ H _ I hq) fun f s' q => by
 cases f with
 | next =>
   obtain ⟨σ', H', I2, as, hg⟩ := q
   obtain ⟨H2, I3, q2⟩ := inv_gfz I2 hg
   exact ⟨σ', H2, I3, q2⟩
 | ret v => exact q
 | brk => exact q
 | cont => exact q⟩
section
variable {K : PySem.W.Frag} {σ σ' : L2.St} {H : Hp} {F F1 F2 Fu G : List Addr} {ta tb te : TE} {v u x y e : V} {i j : Int} {α β : Type} {τ : Ty α} {υ : Ty β} {Q : VK} {D : Ends} {t1 t2 : TS}
theorem q_post (h : tSeq t1 (tGz t2) D σ H) : tSeq (tPost t1) t2 D σ H := h
end
end G
namespace G
open PySem PySem.Spec PyProof.Rows L2
section
variable {K : PySem.W.Frag} {H : Hp} {F1 F2 : List Addr} {v w' : V} {Q : VK} {α : Type} {n m : Nat} {x y : α}
end
end G
namespace G
open PySem PySem.Spec PyProof.Rows L2
end G
namespace G
open PySem PySem.Spec PyProof.Rows L2
def deaf : GenState → GenState
 | .suspended _ l c p fs cl => .suspended (fun _ => .unsupported "") l c p fs cl
 | x => x
def slp : GenState → Bool
 | .suspended .. => true
 | _ => false
def plainG : GenState → Prop
 | .suspended _ _ _ _ fs _ => splitAtGen fs = none
 | _ => True
structure Sim (D : Nat → Option GenState) (G G0 : Array GenState) : Prop where
 sz : G0.size = G.size
 old : ∀ (g : Nat) x, D g = some x → G[g]? = some x ∧ G0[g]? = some (deaf x) ∧ slp x = true
 new : ∀ (g : Nat) x, D g = none → G[g]? = some x → G0[g]? = some x ∧ plainG x
section
variable {D : Nat → Option GenState} {G G0 : Array GenState} {g : Nat} {x : GenState}
theorem Sim.set (h : Sim D G G0) (d : D g = none) (px : plainG x) : Sim D (G.setIfInBounds g x) (G0.setIfInBounds g x) := by
 refine ⟨by rw [Array.size_setIfInBounds, Array.size_setIfInBounds]; exact h.sz, fun j y q => ?_, fun j y q r => ?_⟩
 · have ne : g ≠ j := fun z => by subst z; rw [d] at q; cases q
   rw [Array.getElem?_setIfInBounds_ne ne, Array.getElem?_setIfInBounds_ne ne]
   exact h.old j y q
 · by_cases ne : g = j
   · subst ne
     rw [Array.getElem?_setIfInBounds_self] at r ⊢
     split at r
     · cases r
       rename_i l
       rw [if_pos (by rw [h.sz]; exact l)]
       exact ⟨rfl, px⟩
     · cases r
   · rw [Array.getElem?_setIfInBounds_ne ne] at r ⊢
     exact h.new j y q r
theorem Sim.push (h : Sim D G G0) (px : plainG x) : Sim D (G.push x) (G0.push x) := by
 refine ⟨by rw [Array.size_push, Array.size_push, h.sz], fun j y q => ?_, fun j y q r => ?_⟩
 · obtain ⟨a, b, c⟩ := h.old j y q
   have l := (Array.getElem?_eq_some_iff.mp a).1
   refine ⟨?_, ?_, c⟩
   · rw [Array.getElem?_push, if_neg (by omega)]; exact a
   · rw [Array.getElem?_push, if_neg (by rw [h.sz]; omega)]; exact b
 · rw [Array.getElem?_push] at r ⊢
   by_cases l : j = G.size
   · rw [if_pos l] at r
     rw [if_pos (by rw [h.sz]; exact l)]
     cases r
     exact ⟨rfl, px⟩
   · rw [if_neg l] at r
     rw [if_neg (by rw [h.sz]; exact l)]
     exact h.new j y q r
end
end G
namespace G
open PySem PySem.Spec PyProof.Rows L2 GenW
abbrev Zk := Hp × List (Addr × Obj)
structure GP where
 M : Model
 A : Around
 En : Nat → Zk → Shared → Result → Shared → Prop
 Yd : Nat → Zk → Shared → Value → Shared → (Zk → Shared → Prop) → Prop
section
variable {G : GP} {n : Nat} {Z : Zk} {so s : Shared} {c : Code} {fs : List Frame}
end
structure GF where
 X0 : Cx
 q : Nat
 n : Nat
 it : Nat → V → Hp → Prop
 Hs : Hp
 g0 : Addr × Obj
def cutH (h : Heap) (L : Addr) : Heap := { h with objs := h.objs.extract 0 L }
def GF.at (F : GF) (s : Shared) (Z : Zk) : Cx := { F.X0 with s_0 := { s with heap := cutH s.heap F.X0.env.locals }, H_0 := Z.1, pn := Z.2 }
def IpOk (F : GF) (Z : Zk) (so : Shared) (ip : List (Addr × Obj)) : Prop := (F.X0.env.locals ≤ so.heap.objs.size ∧ F.g0 ∈ ip) ∧ ∀ p ∈ ip, F.X0.env.locals ≤ p.1 ∧ ∀ p' ∈ Z.2, p'.1 ≠ p.1
def GF.yd (F : GF) : Nat → Zk → Shared → Value → Shared → (Zk → Shared → Prop) → Prop := fun m Z so v s' kap =>
 ∃ x σ Hy ip, 0 < m ∧ m ≤ F.n ∧ RelV x v ∧ F.it (F.n - m) x Hy ∧ Chg [] F.Hs Hy ∧ Inv (F.at so Z) ip σ Hy s' ∧ IpOk F Z so ip ∧ ∀ s2 P2 H2, Chg [] Hy H2 → Inv (F.at s2 (H2, P2)) ip σ H2 s2 → IpOk F (H2, P2) s2 ip → kap (H2, P2) s2
def GF.en (F : GF) (gp : Addr × Obj) : Nat → Zk → Shared → Result → Shared → Prop := fun m Z so r s' =>
 (r = .ok (.ret .none) ∨ r = .ok .next) ∧ m = 0 ∧ ∃ σ He ip, Chg [] F.Hs He ∧ gp ∈ ip ∧ Inv (F.at so Z) ip σ He s' ∧ IpOk F Z so ip
def GF.gp (F : GF) (A : Around) (gp : Addr × Obj) : GP := ⟨model F.X0.prog F.X0.w, A, F.en gp, F.yd⟩
section
variable {F : GF} {st : Stmt} {rest : List Stmt} {t u : TS}
end
end G
namespace G
open PySem PySem.Spec PyProof.Rows L2 GenW
section
variable {F : GF} {st : Stmt} {rest : List Stmt} {t u : TS}
end
end G
namespace G
open PySem PySem.Spec PyProof.Rows L2 GenW
def Exp : HO → Prop
 | .tup _ => True
 | .frz _ (.tup _) => True
 | .frz _ (.lst _) => True
 | _ => False
def Flt : HO → Prop
 | .lst _ => True
 | .dK _ => True
 | .dT _ => True
 | .set _ _ => True
 | .ext _ => True
 | _ => False
section
variable {P : Program} {w : World} {H H' : Hp} {h h' : Heap} {a : Addr} {o : HO}
end
section
variable {X : Cx} {pins : List (Addr × Obj)} {σ : L2.St} {H : Hp} {s : Shared}
end
end G
namespace G
open PySem PySem.Spec PyProof.Rows L2 GenW
structure Dd (h h' : Heap) : Prop where
 sz : h.objs.size ≤ h'.objs.size
 dead : ∀ b, b < h.objs.size → h.get? b = none → h'.get? b = none
theorem Dd.refl (h : Heap) : Dd h h := ⟨Nat.le_refl _, fun _ _ e => e⟩
theorem Dd.trans {a b c : Heap} (x : Dd a b) (y : Dd b c) : Dd a c := ⟨Nat.le_trans x.sz y.sz, fun d l e => y.dead d (Nat.lt_of_lt_of_le l x.sz) (x.dead d l e)⟩
open Classical in
noncomputable def hideM (H : Hp) (M : List Addr) : Hp := fun b => if b ∈ M then none else H b
theorem hide_out {H : Hp} {M : List Addr} {b : Addr} (h : b ∉ M) : hideM H M b = H b := if_neg h
section
variable {A B : Hp} {b : Addr} {o : HO}
end
structure Rel (env : Env) (H1 : Hp) (M : List Addr) (Hg Hc : Hp) : Prop where
 mm : ∀ b ∈ M, Hg b = none
 gg : Chg [] (hideM H1 M) Hg
 cc : Chg M H1 Hc
 ol : ∀ b, b < env.locals → Hc b = none → Hg b = none
 sh : ∀ b o, H1 b = none → Hg b = some o → Hc b = none ∨ (Hc b = some o ∧ Exp o)
 fm : ∀ b ∈ M, ∃ o, Hc b = some o ∧ Flt o
 dm : ∀ b ∈ M, ∃ o, H1 b = some o
theorem Rel.old {env : Env} {H1 : Hp} {M : List Addr} {Hg Hc : Hp} (R : Rel env H1 M Hg Hc) {b : Addr} {o : HO} (h : H1 b = some o) (m : b ∉ M) : Hg b = some o ∧ Hc b = some o :=
 ⟨R.gg.keep b o (by rw [hide_out m]; exact h) (.inl List.not_mem_nil), R.cc.keep b o h (.inl m)⟩
end G
namespace G
open PySem PySem.Spec PyProof.Rows L2 GenW
section
variable {X : Cx} {N : List Str} {env : Env} {Aw : Around} {q n : Nat} {it : Nat → V → Hp → Prop} {H1 Hg Hc Hy Hs : Hp} {M : List Addr} {pins ip ip' : List (Addr × Obj)} {σ σg σ' : L2.St} {s so sy : Shared} {g0 : Addr × Obj}
end
end G
namespace G
open PySem PySem.Spec PyProof.Rows L2 GenW
end G
namespace G
open PySem PySem.Spec PyProof.Rows L2 GenW
abbrev SpY := List V → Hp → Nat → (Nat → V → Hp → Prop) → Prop
end G
namespace G
open PySem PySem.Spec PyProof.Rows L2 GenW
section
variable {X : Cx} {N : List Str} {env : Env} {Aw : Around} {q n : Nat} {it : Nat → V → Hp → Prop} {H1 : Hp} {M : List Addr} {pins : List (Addr × Obj)} {σ : L2.St} {s s' : Shared} {vs : List V}
end
end G
namespace G
open PySem PySem.Spec PyProof.Rows L2 GenW
end G
namespace Mi
end Mi
namespace G
open PySem PySem.Spec PyProof.Rows L2 GenW
section
variable {K : PySem.W.Frag} {σ σ' : L2.St} {H H1 : Hp} {F : GF} {F1 F2 M : List Addr} {v u x : V} {α β : Type} {τ : Ty β} {te : TE} {ta : TA} {D : Ends} {t1 t2 tb : TS} {gt : TG} {sp : SpY} {vs : List V} {tot : List β}
theorem tupT3 {v : V} {F : List Addr} {d : Int × Int × Int} (r : (yTup (sCons yInt (sCons yInt (sOne yInt)))).rep K H F v d) : (yTupL yInt).rep K H [] v [d.1, d.2.1, d.2.2] := by
 obtain ⟨a, vs, e, s, v1, ws, F1, F2, e1, _, ⟨_, r1⟩, v2, ws2, F3, F4, e2, _, ⟨_, r2⟩, v3, e3, ⟨_, r3⟩⟩ := r
 subst e3 e2 e1 r1 r2 r3
 exact ⟨a, _, e, rfl, s, .cons ⟨rfl, rfl⟩ (.cons ⟨rfl, rfl⟩ (.cons ⟨rfl, rfl⟩ .nil))⟩
end
end G
namespace PySem
namespace ErrI_leg
open PySem.W PySem.Calls PyProof.Rows PySem.HandSPX
open PySem.ErrX (ldX one_size)
def eA (p1 p2 : Pos) : Arguments := { posonlyargs := [], args := [{ arg := "self", annotation := none, pos := p1 }, { arg := "leg", annotation := none, pos := p2 }], vararg := none, kwonlyargs := [], kw_defaults := [], kwarg := none, defaults := [] }
def eB (m : Str) (p0 p1 p2 p3 p4 p5 p6 p7 q1 q2 q3 q4 r5 r6 : Pos) : List Stmt :=
 [.Expr (.Call (.Attribute (.Call (.Name "super" p0) [] [] p1) "__init__" p2) [.BinOp (.Constant (.str m) 0 p3) .Add (.Call (.Name "str" r5) [.Name "leg" p4] [] r6) p5] [] p6) p7, .Assign [.Attribute (.Name "self" q1) "leg" q2] (.Name "leg" q3) q4]
def eS : Scope := { kind := .function, names := [(PySem.Str.ofString "self", .local), (PySem.Str.ofString "leg", .local), (PySem.Str.ofString "__class__", .free), (PySem.Str.ofString "super", .globalImplicit), (PySem.Str.ofString "str", .globalImplicit)], isGenerator := false, isCoroutine := false, more := [] }
structure ErrTxt (P : Program) (K : Frag) (mg : Str → Option Value) (x qual : Str) (st : Stmt) (C fI : Addr) : Prop where
 gC : mg x = some (.ref C)
 cls : ∃ nm q N bs bm sn sub ab col dd k0 k1 k2 k3 k5, K.lookup C = some (excClassObj nm q C N bs bm true sn sub ab col dd k0 k1 k2 k3 k5 "ValueError.__new__") ∧ refsVE bm = true
 sa : findIn K (.ref C) "__setattr__" = some (some (.builtin "object.__setattr__"))
 ga : findIn K (.ref C) "__getattribute__" = some (some (.builtin "BaseException.__getattribute__"))
 gg : findIn K (.ref C) "__getattr__" = some none
 noN : findIn K (.ref C) "leg" = some none
 iC : findIn K (.ref C) "__init__" = some (some (.ref fI))
 tC : typeIn K (.ref fI) = some (.type "function")
 kC : keepIn K (.ref C) = true
 exC : subIn K (.ref C) (.type "BaseException") = some true
 veC : subIn K (.ref C) (.type "ValueError") = some true
 tyC : typeIn K (.ref C) = some (.type "type")
 hdC : hasDictIn K C = true
 mroC : mroIn K C (.ref C) = some true
 sup : ks_superIn K C C "__init__" = some (some (.builtin "ValueError.__init__"))
 opq : nsIn K cStatics "thirdparty.any" = some none
 nsu : mg "super" = none
 nst : mg "str" = none
 top : (P.main.scope.names.lookup ("super" : Str)).isSome = false
 fn : ∃ (oc : Value) (od : Option Addr) (doc pm : Value) (an : Option Addr) (cda : Addr) (ct : Value) (cc : Addr) (osl : Array (Option Value)),
   K.lookup fI = some ⟨oc, od, .func (ksFn "__init__" qual (L2.defArgs st) (L2.defBody st) (L2.defScope st) .none .none doc pm an (.ref cda) ct cc), osl⟩ ∧ codeIn K (.ref cda) qual = true ∧
   (∃ (ccl : Value) (cdd : Option Addr) (vs : Array Value) (ccs : Array (Option Value)) (file : Str) (tf : Tok), K.lookup cda = some ⟨ccl, cdd, .fields vs, ccs⟩ ∧ vs[2]? = some (.str file tf) ∧ ((P.main.file : Str) == file) = true) ∧
   ∃ (cl : Value) (cld : Option Addr) (csl : Array (Option Value)), K.lookup cc = some ⟨cl, cld, .cell (some (.ref C)), csl⟩
 shape : ∃ (msg : Str) (r1 r2 p0 p1 p2 p3 p4 p5 p6 p7 q1 q2 q3 q4 r5 r6 : Pos), L2.defArgs st = eA r1 r2 ∧ L2.defBody st = eB msg p0 p1 p2 p3 p4 p5 p6 p7 q1 q2 q3 q4 r5 r6 ∧ L2.defScope st = eS ∧ msg.length ≤ 100 ∧
   ∀ L f cda cc : Addr, ∃ pl : Sem Bool, eval (.Call (.Attribute (.Call (.Name "super" p0) [] [] p1) "__init__" p2) [.BinOp (.Constant (.str msg) 0 p3) .Add (.Call (.Name "str" r5) [.Name "leg" p4] [] r6) p5] [] p6) (ksEnv qual eS L f (.ref cda) cc) = (do
     let ov ← attributeBase (.Call (.Name "super" p0) [] [] p1) "__init__" (ksEnv qual eS L f (.ref cda) cc) (eval (.Call (.Name "super" p0) [] [] p1) (ksEnv qual eS L f (.ref cda) cc))
     standAt p2.atName
     let (f', first) ← holding [ov] (getMethod ov "__init__" pl)
     callWith p6 f' first (backTo p6 (starEach [.BinOp (.Constant (.str msg) 0 p3) .Add (.Call (.Name "str" r5) [.Name "leg" p4] [] r6) p5] (ksEnv qual eS L f (.ref cda) cc))) [])
structure InitEnd (h h' : Heap) (x C dx : Addr) (v : Value) : Prop where
 keep : ∀ b o, b ≠ x → h.get? b = some o → h'.get? b = some o
 obj : ∃ t1 : Addr, h'.get? x = some { cls := .ref C, dict := some dx, data := .fields #[.ref t1, .none, .none, .none, .bool false, .none] }
 dbig : h.objs.size ≤ dx
 dne : dx ≠ x
 ns : h'.Ns1 dx (fun y => if y = "leg" then some v else none)
section
variable {prog : Program} {w : World} {A : Around} {E : Value → Shared → Prop} {R : Result → Shared → Prop} {s : Shared} {K : Frag} {mg mb : Str → Option Value} {C fI : Addr} {cn qual : Str} {st : Stmt}
theorem err_init (T : ErrTxt prog K mg cn qual st C fI) {x t0 : Addr} {y : Int} {ty : Tok} (X : K.In s.heap) (hg : s.heap.Ns mainGlobals mg) (hb : s.heap.Ns builtinsNs mb) (hbs : mb "super" = bootBuiltins "super") (hbt : mb "str" = bootBuiltins "str") (hlim : s.heap.NoLimit) (hx : s.heap.get? x = some (excO C t0)) (hnx : K.lookup x = none) (hy : y.natAbs.log2 < 1920) (hroom : A.depth < recursionLimit)
   (hq : ∀ h' tk dx, InitEnd s.heap h' x C dx (.int y ty) → R (.ok (.ret .none)) { s with heap := h', toks := tk }) :
   codeAny (model prog w) A (.call (.ref fI) ⟨[.ref x, .int y ty], []⟩) R s := by
 obtain ⟨oc, od, doc, pm, an, cda, ct, cc, osl, ho, hcd, ⟨ccl, cdd, vs, ccs, file, tf, hcode, hvs, hfile⟩, cl, cld, csl, hcell⟩ := T.fn
 obtain ⟨msg, r1, r2, p0, p1, p2, p3, p4, p5, p6, p7, q1, q2, q3, q4, r5, r6, eA', eB', eS', hml, hev⟩ := T.shape
 rw [eA', eB', eS'] at ho
 obtain ⟨nm, q, N, bs, bm, sn, sub, ab, col, dd, k0, k1, k2, k3, k5, hC, hbm⟩ := T.cls
 have hcl : clsIn K C = some { name := nm, bases := bs, mro := .ref C :: bm, ns := N, qualname := q, hasDict := true, slotNames := sn, subclasses := sub, abstract := ab, collection := col, hasDel := false } := by unfold clsIn; rw [hC] <;> rfl
 refine ks_codeAny_call_defAt (fd := ksFn "__init__" qual (eA r1 r2) (eB msg p0 p1 p2 p3 p4 p5 p6 p7 q1 q2 q3 q4 r5 r6) eS .none .none doc pm an (.ref cda) ct cc) (body := eB msg p0 p1 p2 p3 p4 p5 p6 p7 q1 q2 q3 q4 r5 r6) (binds := [("self", .ref x), ("leg", .int y ty)]) hroom (X _ _ ho) rfl hlim (codeRec_of X hcd) rfl (BindsTo.of_eq (by first | rfl | with_unfolding_all rfl)) (fun z hz => by revert z; show ∀ z ∈ eS.names, z.2 ≠ NameKind.cell; decide) (by first | decide | (intro z hz; simp at hz; rcases hz with rfl | rfl <;> rfl)) (fun h₁ hns k => ?_) rfl rfl rfl
 have X₁ : K.In h₁ := X.keeps k
 have hx₁ := k _ _ hx
 show wpAt (model prog w) _ _ (execs (_ :: _) (ksEnv qual eS s.heap.objs.size fI (.ref cda) cc)) _ _ _
 obtain ⟨pl, he⟩ := hev s.heap.objs.size fI cda cc
 refine ks_wpAt_execs_cons (ks_wpAt_Expr_any (ks_wpAt_MethodCall (pl := pl) (he := he) ?_))
 obtain ⟨oD, hD1, hD2⟩ : ∃ oD, h₁.get? C = some oD ∧ oD.data = .cls { name := nm, bases := bs, mro := .ref C :: bm, ns := N, qualname := q, hasDict := true, slotNames := sn, subclasses := sub, abstract := ab, collection := col, hasDel := false } := ⟨_, X₁ _ _ hC, rfl⟩
 refine ks_wpAt_super_base (env := ksEnv qual eS s.heap.objs.size fI (.ref cda) cc) rfl rfl rfl rfl (X₁ _ _ ho) rfl rfl rfl (X₁ _ _ hcode) rfl hvs hfile T.top ?_
 refine ks_loadName_global rfl rfl (loadGlobal_builtin (env := ksEnv qual eS s.heap.objs.size fI (.ref cda) cc) (hg.keeps k) T.nsu (hb.keeps k) (hbs.trans (by decide +kernel)) ⟨rfl, ?_⟩)
 refine wpAny_loadName_free rfl rfl rfl ⟨_, X₁ _ _ hcell, rfl⟩ ?_
 refine wpAny_loadName_local rfl rfl hns (v := .ref x) rfl ?_
 refine ks_wpAny_isType_cls hD1 hD2 ⟨rfl, ?_⟩
 refine ks_wpAny_call_super hD1 hD2 hx₁ rfl (fun c e => by cases e) (looks_mroIn X₁ T.mroC) (fun h₂ hso k₂ => ?_)
 have X₂ : K.In h₂ := X₁.keeps k₂
 have hx₂ := k₂ _ _ hx₁
 have I₂ : InstAt h₂ x (excO C t0) C none := ⟨hx₂, rfl, rfl, trivial⟩
 have hI : Looks (model prog w) h₂ (isInstance (.ref x) (.type "ValueError")) true := I₂.type.andThen (looks_subIn X₂ T.veC)
 have hsup := T.sup
 unfold ks_superIn at hsup
 rw [hcl] at hsup
 refine kxs_getMethod kxs_ValueError hso (looks_opaque X₂ T.opq) (l₀ := .ref C :: bm) (fun A Q E s k q => wpAny_bind ((looks_clsIn X₂ hcl) A _ E s k (wpAny_pure q))) rfl X₂ hsup hI (ks_ne X₂ I₂ hcl) rfl ?_
 have k₃ : ∀ b o, h₂.get? b = some o → (h₂.push (kxs_mw "ValueError.__init__" x)).get? b = some o := fun b o e => Heap.get?_push_of_some _ e
 have hu : (h₂.push (kxs_mw "ValueError.__init__" x)).get? h₂.objs.size = some (kxs_mw "ValueError.__init__" x) := Heap.get?_push_at rfl rfl
 have hns₃ : (h₂.push (kxs_mw "ValueError.__init__" x)).Ns s.heap.objs.size (fun y' => ([("self", .ref x), ("leg", Value.int y ty)] : List (Str × Value)).reverse.lookup y') := (hns.keeps k₂).keeps k₃
 refine kxs_callWith (i := "ValueError.__init__") (x := x) rfl (evalArgs_plain (args_cons (wpAny_BinOp (wpAny_Constant_str ?_)) rfl))
 refine wpAny_Call_Name_kw (wpAny_Name (ks_loadName_global (env := ksEnv qual eS s.heap.objs.size fI (.ref cda) cc) rfl rfl (loadGlobal_builtin (env := ksEnv qual eS s.heap.objs.size fI (.ref cda) cc) (((hg.keeps k).keeps k₂).keeps k₃) T.nst (((hb.keeps k).keeps k₂).keeps k₃) (v := .type "str") (hbt.trans (by decide +kernel)) ?_)) (by decide))
 refine PyProof.Rows.callWith_type1 (args_cons (ldX hns₃ (v := .int y ty) rfl ?_) rfl)
 refine args_nil (P.str_of_int hy ?_)
 refine add_str (fun t' tk => args_nil ⟨hu, ?_⟩) (by
   rw [ofString_length, sizeLine_eq]
   have := int_text_length_le (k := 1920) (by decide) hy
   omega)
 refine wpAny_call (codeAny_of_tree ?_)
 show wpAny _ _ (callAny (.ref h₂.objs.size) ⟨_, []⟩) _ _ _
 simp only [callAny]
 refine wpAny_bind (wpAny_load hu ?_)
 simp only [kxs_mw, show (Value.type "method-wrapper" == Value.type "method" || Value.type "method-wrapper" == Value.type "builtin_function_or_method" || Value.type "method-wrapper" == Value.type "method-wrapper") = true by decide, if_true]
 refine KFB.if_so (by decide) ?_
 refine wpAny_bind (check_bound_init F.excBase_ValueError.toExcCallFacts (k₃ _ _ (X₂ _ _ hC)) (k₃ _ _ hx₂) rfl ?_)
 refine wpAny_bind (wpAny_pure (wpAny_pure ?_))
 refine ⟨plainId_quiet F.excBase_ValueError.init.plain _, codeAny_builtin F.excBase_ValueError.initEntry ?_⟩
 refine exc_init_tree (cls := .ref C) (t0 := t0) (dv := none) (c2 := .none) (c3 := .none) (b4 := .bool false) (k₃ _ _ hx₂) (by rw [sizeLine_eq]; exact (by decide : 1 ≤ 16777216)) fun h₄ k₄ hx₄ _ => ?_
 show wpAt (model prog w) _ _ (execs (_ :: _) (ksEnv qual eS s.heap.objs.size fI (.ref cda) cc)) _ _ _
 have kk : ∀ b o, b ≠ x → s.heap.get? b = some o → h₄.get? b = some o := fun b o hb e => k₄ b o hb (k₃ b o (k₂ b o (k b o e)))
 have hLx : s.heap.objs.size ≠ x := Nat.ne_of_gt (Heap.lt_size hx)
 have hns₄ : h₄.Ns s.heap.objs.size (fun y' => ([("self", .ref x), ("leg", Value.int y ty)] : List (Str × Value)).reverse.lookup y') := by
   obtain ⟨oL, es, ep, hL, r⟩ := hns₃
   exact ⟨oL, es, ep, k₄ _ _ hLx hL, r⟩
 have X₄ : K.In h₄ := fun b o e => k₄ b o (fun z => by
   rw [z, hnx] at e; cases e) (k₃ b o (X₂ _ _ e))
 refine wpAt_of_wpAny (wpAny_execs_cons (plainObj_wpAny_Assign_Attribute ?_))
 refine ldX (v := .int y ty) hns₄ rfl (ldX (v := .ref x) hns₄ rfl ?_)
 refine set_plain X₄ (ox := excO C (h₂.push (kxs_mw "ValueError.__init__" x)).objs.size) (od := none) ⟨hx₄, rfl, rfl, trivial⟩ T.sa ?_
 refine exc_osa X₄ hx₄ hcl (show refsVE (.ref C :: bm) = true from hbm) rfl T.noN (fun h₅ tk₅ dx k₅ dn dne hx₅ hn₅ => ?_)
 show wpAny _ _ (execs _ _) _ _ _
 have z : s.heap.objs.size < h₄.objs.size := hns₄.lt
 exact wpAny_execs_nil (hq h₅ tk₅ dx ⟨fun b o hb e => k₅ b o hb (kk b o hb e), ⟨_, hx₅⟩, Nat.le_of_lt (Nat.lt_of_lt_of_le z dn), dne, hn₅⟩)
structure OwnMade (h h' : Heap) (e C d : Addr) (v : Value) : Prop where
 keep : ∀ b o, h.get? b = some o → h'.get? b = some o
 new : h.objs.size ≤ e
 obj : ∃ oe vs, h'.get? e = some oe ∧ oe.cls = .ref C ∧ oe.dict = some d ∧ oe.data = .fields vs ∧ vs[1]? = some .none ∧ vs[2]? = some .none
 dbig : h.objs.size ≤ d
 dne : d ≠ e
 ns : h'.Ns1 d (fun y => if y = "leg" then some v else none)
theorem err_made (T : ErrTxt prog K mg cn qual st C fI) {y : Int} {ty : Tok} (X : K.In s.heap) (hg : s.heap.Ns mainGlobals mg) (hb : s.heap.Ns builtinsNs mb) (hbs : mb "super" = bootBuiltins "super") (hbt : mb "str" = bootBuiltins "str") (hlim : s.heap.NoLimit) (hy : y.natAbs.log2 < 1920) (hroom : A.depth + 1 < recursionLimit)
   (hq : ∀ h' tk e d, OwnMade s.heap h' e C d (.int y ty) → R (.ok (.ret (.ref e))) { s with heap := h', toks := tk }) :
   codeAny (model prog w) A (.call (.ref C) ⟨[.int y ty], []⟩) R s := by
 obtain ⟨nm, q, N, bs, bm, sn, sub, ab, col, dd, k0, k1, k2, k3, k5, hC, hbm⟩ := T.cls
 obtain ⟨hp, g, dr, tk, os⟩ := s
 have k : ∀ b o, hp.get? b = some o → ((hp.push (kdv_tup [.int y ty])).push (excO C hp.objs.size)).get? b = some o := fun b o e => Heap.get?_push_of_some _ (Heap.get?_push_of_some _ e)
 have hget : ((hp.push (kdv_tup [.int y ty])).push (excO C hp.objs.size)).get? (hp.objs.size + 1) = some (excO C hp.objs.size) := by heap_get
 have hnx : K.lookup (hp.objs.size + 1) = none := by
   cases e : K.lookup (hp.objs.size + 1) with
   | none => rfl
   | some o =>
     have z : hp.get? (hp.objs.size + 1) = some o := X _ _ e
     exact absurd (Nat.lt_of_succ_lt (Heap.lt_size z)) (Nat.lt_irrefl _)
 refine call_own F.excBase_ValueError (fun X => refsVE_contains X bm hbm) (X _ _ hC) (looks_findIn X T.iC) (fun self => bind_fn X self T.tC) (one_size _) ?_
 refine err_init (s := ⟨(hp.push (kdv_tup [.int y ty])).push (excO C hp.objs.size), g, dr, tk, os⟩) T (X.keeps k) (hg.keeps k) (hb.keeps k) hbs hbt (hlim.keeps k) hget hnx hy ?_ fun h' tk' dx ⟨k', ⟨t1, hx⟩, dn, dne, hns⟩ => ?_
 · show A.depth + 1 < recursionLimit
   exact hroom
 · have old : ∀ b o, hp.get? b = some o → h'.get? b = some o := fun b o e => k' b o (Nat.ne_of_lt (Nat.lt_succ_of_lt (Heap.lt_size e))) (k b o e)
   have z : hp.objs.size + 1 + 1 ≤ dx := by
     first
       | (simpa only [Heap.size_push] using dn)
       | exact dn
       | (have q := dn; rw [Heap.size_push, Heap.size_push] at q; exact q)
   exact ⟨rfl, hq h' tk' (hp.objs.size + 1) dx ⟨old, Nat.le_succ _, ⟨_, _, hx, rfl, rfl, rfl, rfl, rfl⟩, Nat.le_trans (Nat.le_trans (Nat.le_succ _) (Nat.le_succ _)) z, dne, hns⟩⟩
end
end ErrI_leg
end PySem
namespace L2
open PySem PySem.Spec PyProof.Rows
section
variable {X : Cx} {C fI : Addr} {cn qual : Str} {st : Stmt}
end
end L2
namespace G
open PySem PySem.Spec PyProof.Rows L2
section
variable {K : PySem.W.Frag} {σ : L2.St} {H : Hp} {Q : VK} {C : Addr} {D : Ends} {t2 : TS} {te : TE} {a dd : Addr} {fs : List (Str × V)}
end
end G
namespace G
open PySem PySem.Spec PyProof.Rows L2
section
variable {K : PySem.W.Frag} {H : Hp} {Q : VK} {F : List Addr} {v : V} {α : Type} {τ : Ty α}
theorem gO {c : Bool} {z : Unit} (h : Mi.guardO c = some z) : c = true := by
 unfold Mi.guardO at h
 split at h
 · assumption
 · cases h
theorem m_appD {xs : List α} {u : V} {z : Unit} (r : (yLst τ).rep K H F v xs) (hm : Mi.guardO (decide (xs.length < Mi.big)) = some z) (k : ∀ H', Chg F H H' → Q .non H') : rAppend v [u] H Q := by
 obtain ⟨p, vs, rfl, rfl, g, q⟩ := r
 have hz := of_decide_eq_true (gO hm)
 exact ⟨p, vs, u, rfl, rfl, g, Nat.lt_of_lt_of_le (by rw [pr_len q]; exact hz) line_big, k _ (Chg.wr g (fun z => z))⟩
end
end G
namespace G
open PySem PySem.Spec PyProof.Rows L2
section
variable {K : PySem.W.Frag} {σ : L2.St} {H : Hp} {Q : VK} {C : Addr} {te : TE} {a dd : Addr} {fs : List (Str × V)}
theorem w_isT {ta : TA} {cs : List V} {us : List Value} {b : Bool} (h : Val te σ H (.ref a)) (hd : H dd = some (.xd fs)) (hv : VaA ta σ H cs) (k : Paired ClsV cs us) (e : PySem.W.kitAny K (.ref C) us = some b) (hl : cs.length ≤ 100)
   (kk : ∀ H', Chg [] H H' → H' dd = some (.xd fs) → Q (.bl b) H') : tCB (rIsEt K C a (.ref C) (some dd)) (tCons te (tCons (tTup ta) tNil)) σ H Q := by
 refine h _ (hv _ ⟨by rw [sizeLine_eq]; omega, fun p hp => ?_⟩)
 have hne : dd ≠ p := fun z => by rw [z, hp] at hd; cases hd
 have hd' : (upd H p (.tup cs)) dd = some (.xd fs) := by rw [upd_ne hne]; exact hd
 exact ⟨dd, fs, p, cs, us, b, rfl, rfl, rfl, hd', upd_same, k, e, kk _ (Chg.lay hp trivial) hd'⟩
end
end G
namespace G
open PySem PySem.Spec PyProof.Rows L2
structure CalXN (P : Program) (w : World) (K : PySem.W.Frag) (mg : Str → Option Value) (x : Str) (ps : List Str) (k : Nat) (sp : Sp) : Prop where
 ex : ∃ f fd, mg x = some (.ref f) ∧ PySem.W.keepIn K (.ref f) = true ∧ (∀ (s : Shared) (us : List Value), us.length = ps.length → BindsTo s fd ⟨us, []⟩ (ps.zip us)) ∧ ∀ base : Heap, FnOk P w K mg base (L2N.CX P w) k f fd ps sp
theorem pe_ccSN {X : Cx} {x : Str} {ps : List Str} {j k : Nat} {sp : Sp} {p pos : Pos} {e : Expr} {es : List Expr} {t : TA} {E : L2.St → XK} (C : CalXN X.prog X.w X.K X.mg x ps j sp) (hr : Room k X.A) (hx : ∀ σ, PassesAt (L2N.CX X.prog X.w) X σ (E σ)) (ha : PA X (e :: es) t) (hj : j ≤ k := by decide) (hg : Gl X x := by rfl)
   (hd : (x == ("__debug__" : Str)) = false := by decide) (he : starEach (e :: es) X.env = (false, eval e X.env) :: starEach es X.env := by rfl)
   (hpl : (backTo pos (starEach es X.env)).any (·.1) = false := by rfl) :
   PE X (.Call (.Name x p) (e :: es) [] pos) (tCallS sp E t) := by
 obtain ⟨f, fd, g, kp, b, F⟩ := C.ex
 exact pe_callS (F X.base) (hr.mono hj) hg g kp (fun s us _ hl => by rw [List.append_nil] at hl ⊢; exact b s us hl) hx ha hd he hpl
theorem take0N {X : Cx} : L2N.Takes X (fun _ _ _ _ => False) := fun _ _ x => by
 obtain ⟨a, B, sI, pins, σ, H, cls, d, _, _, _, _, _, _, _, _, w⟩ := x
 exact w.elim
theorem okXN {P : Program} {w : World} {K : PySem.W.Frag} {mg : Str → Option Value} {base : Heap} {x qual : Str} {st : Stmt} {f : Addr} {fd : FuncData} {N ps : List Str} {k : Nat} {sp : Sp} (F : Fun K x qual st f fd) (S : FnScope N ps (defScope st)) (len : ∀ vs H Q E, sp vs H Q E → vs.length = ps.length)
   (hbody : ∀ (cdv : Value) (A : Around) (outer : List Env) (s : Shared) (H : Hp) (vs : List V) (Q : VK) (E : XK), Room k (A.deeper (envOfC qual (defScope st) s.heap.objs.size f cdv)) → sp vs H Q E →
     ∃ t, PSs (cxOf (L2N.CX P w) P w K mg base N qual (defScope st) f cdv A outer s H E) (defBody st) t ∧ t { nx := fun _ H' => Q .non H', rt := Q } (start N vs) H) : FnOk P w K mg base (L2N.CX P w) (k + 1) f fd ps sp := by
 obtain ⟨oc, od, kV, doc, pm, an, cdv, ct, osl, rfl, lk, hcd⟩ := F.ex
 exact fn_of lk hcd S len fun A outer s H vs Q E hr hsp => hbody cdv A outer s H vs Q E hr hsp
structure CalH (P : Program) (w : World) (K : PySem.W.Frag) (mg : Str → Option Value) (x : Str) (ps : List Str) (k : Nat) (sp : Sp) : Prop where
 ex : ∃ f fd, mg x = some (.ref f) ∧ PySem.W.keepIn K (.ref f) = true ∧ (∀ (s : Shared) (us : List Value), us.length = ps.length → BindsTo s fd ⟨us, []⟩ (ps.zip us)) ∧ ∀ base : Heap, L2H.FnH P w K mg base CX0 k f fd ps sp
theorem hotc {X : Cx} {a : Addr} {oe : Obj} {pn : List (Addr × Obj)} {cls : Value} {d : Option Addr} (hz : L2N.Zn cls d oe) (hf : ∃ vs, oe.data = .fields vs) : L2H.HotC (X.suite a ((a, oe) :: pn)) := by
 obtain ⟨vs, e⟩ := hf
 exact ⟨(a, oe), ⟨rfl, vs, e, hz.2.2 vs e⟩, List.mem_cons_self⟩
theorem roomS {X : Cx} {k : Nat} {a : Addr} {oe : Obj} {pn : List (Addr × Obj)} (hr : Room k X.A) : L2H.RoomH k (X.suite a ((a, oe) :: pn)).A := ⟨hr.dp, hr.un⟩
theorem pe_ccH {X : Cx} {x : Str} {ps : List Str} {j k : Nat} {sp : Sp} {p pos : Pos} {e : Expr} {es : List Expr} {t : TA} (C : CalH X.prog X.w X.K X.mg x ps j sp) (hr : L2H.RoomH k X.A) (hc : L2H.HotC X) (ha : PA X (e :: es) t) (hj : j ≤ k := by decide) (hg : Gl X x := by rfl)
   (hd : (x == ("__debug__" : Str)) = false := by decide) (he : starEach (e :: es) X.env = (false, eval e X.env) :: starEach es X.env := by rfl)
   (hpl : (backTo pos (starEach es X.env)).any (·.1) = false := by rfl) :
   PE X (.Call (.Name x p) (e :: es) [] pos) (tCall sp [] E0 t) := by
 obtain ⟨f, fd, g, kp, b, F⟩ := C.ex
 have z := L2H.pe_callH (q := p) (pos := pos) (E := fun _ => E0) (F X.base) (hr.mono hj) hc hg g kp (fun s us _ hl => by rw [List.append_nil] at hl ⊢; exact b s us hl) (fun σ pins H s u s' I c => pass0 pins σ H s u s' I c) ha hd he hpl
 have ee : tCallS sp (fun _ => E0) t = tCall sp [] E0 t := by
   funext σ H Q
   show t σ H _ = t σ H _
   congr 1
   funext vs H1
   rw [List.append_nil]
 rw [ee] at z
 exact z
theorem okH {P : Program} {w : World} {K : PySem.W.Frag} {mg : Str → Option Value} {base : Heap} {x qual : Str} {st : Stmt} {f : Addr} {fd : FuncData} {N ps : List Str} {k : Nat} {sp : Sp} (F : Fun K x qual st f fd) (S : FnScope N ps (defScope st)) (len : ∀ vs H Q E, sp vs H Q E → vs.length = ps.length)
   (hbody : ∀ (cdv : Value) (A : Around) (outer : List Env) (s : Shared) (H : Hp) (vs : List V) (Q : VK) (E : XK) (p : Addr × Obj), L2H.Hot1 A p → L2H.RoomH k (A.deeper (envOfC qual (defScope st) s.heap.objs.size f cdv)) → sp vs H Q E →
     ∃ t, PSs (L2H.cxH CX0 P w K mg base N qual (defScope st) f cdv A outer s H E p) (defBody st) t ∧ t { nx := fun _ H' => Q .non H', rt := Q } (start N vs) H) : L2H.FnH P w K mg base CX0 (k + 1) f fd ps sp := by
 obtain ⟨oc, od, kV, doc, pm, an, cdv, ct, osl, rfl, lk, hcd⟩ := F.ex
 exact L2H.fn_ofH lk hcd S len fun A outer s H vs Q E p hp hr hsp => hbody cdv A outer s H vs Q E p hp hr hsp
end G
namespace G
open PySem PySem.Spec PyProof.Rows L2
def yAny : Ty Unit := ⟨fun _ _ F _ _ => F = [], fun r _ => r, fun r b h => by subst r; cases h⟩
theorem any_r {K : PySem.W.Frag} {H : Hp} {v : V} : yAny.rep K H [] v () := rfl
end G
namespace G
open PySem PySem.Spec PyProof.Rows L2
def frL (L : List Addr) (g : Addr → Option Obj) : PySem.W.Frag := He.frG g (L ++ [cStatics])
def obsXGL (L : List Addr) (fa : List He.Fa) (fn : List He.DefD) (ex : PySem.W.Frag → Bool) (file : Str) (er : List ErrD) (g : Addr → Option Obj) : AlX := (He.obsD fa fn (frL L g), ex (frL L g) && er.all (fun d => d.ok (frL L g) file), er.map fun d => fnN (frL L g) (d.x, some "__init__"))
def hookXL (L : List Addr) (fa : List He.Fa) (fn : List He.DefD) (ex : PySem.W.Frag → Bool) (file : Str) (er : List ErrD) : PySem.W.Hook where
 α := AlX
 obs := fun s => obsXGL L fa fn ex file er s.heap.get?
 val := fun _ => (He.valD fn, true, er.map ErrD.val)
 says := fun _ h => ∃ K : PySem.W.Frag, K.In h ∧ SaysX fa fn ex file er K
 of := fun _ _ e => ⟨_, He.frG_in, congrArg Prod.fst e, (He.ba (congrArg (fun z : AlX => z.2.1) e)).1, (He.ba (congrArg (fun z : AlX => z.2.1) e)).2, congrArg (fun z : AlX => z.2.2) e⟩
 keeps := fun _ _ _ ⟨K, hK, c⟩ k => ⟨K, PySem.W.Frag.In.keeps hK k, c⟩
theorem obsXGL_eq {L : List Addr} {fa : List He.Fa} {fn : List He.DefD} {ex : PySem.W.Frag → Bool} {file : Str} {er : List ErrD} {g : Addr → Option Obj} {s : Shared} (h : ∀ a, g a = s.heap.get? a) : obsXGL L fa fn ex file er g = (hookXL L fa fn ex file er).obs s := by
 have e : g = s.heap.get? := funext h
 rw [e] <;> rfl
end G
namespace G
open PySem PySem.Spec PyProof.Rows L2
end G
namespace G
open PySem PySem.Spec PyProof.Rows L2
section
variable {K : PySem.W.Frag} {σ : L2.St} {H : Hp} {Q : VK} {v w : V} {α β γ : Type} {τ : Ty α} {υ : Ty β} {ω : Ty γ} {g : TG} {tt : TT} {te : TE} {ws : List Nat}
end
end G
namespace Mi
end Mi
namespace L2
open G (Lst lst_ok)
open PySem PySem.Spec PyProof.Rows
end L2
namespace G
open PySem PySem.Spec PyProof.Rows L2
section
variable {K : PySem.W.Frag} {H : Hp} {Q : VK} {v u : V}
end
end G
namespace G
open PySem PySem.Spec PyProof.Rows L2
section
variable {X : Cx} {e b : Expr} {te tb : TE} {i : Nat} {x : Str} {p q rest : List Stmt} {t u tr : TS} {p1 p2 p3 p4 : Pos}
def wNmM (te : TE) (i : Nat) : TEw := fun σ H Q => ∃ Qe : VK, te σ H Qe ∧ ∀ x H1, Qe x H1 → Q x (σ.set i (some x)) H1
theorem pew_namedM (hN : X.N.Nodup) (hi : X.N[i]? = some x) (hx : Loc X.env.scope x) (he : PE X e te) (hf : X.fn x = true ∨ X.env.scope.names.lookup x = some .local := by first | exact .inl rfl | exact .inr rfl | assumption) :
   PEw X (.NamedExpr (.Name x p1) e p2) (wNmM te i) := by
 refine ⟨fun pins s σ H Q I h => ?_⟩
 obtain ⟨Qe, h, k⟩ := h
 refine wpAny_NamedExpr (thn (he.run pins s σ H _ I h) fun v s1 ⟨x1, H1, I1, r1, q1⟩ => ?_)
 exact wpAny_assign_Name (store_ok I1 hN hi hx r1 (fun s2 I2 => ⟨x1, _, H1, I2, r1, k _ _ q1⟩) hf)
theorem set_is {σ : L2.St} {v w : V} (h : (σ.set i (some v))[i]? = some (some w)) : w = v := by
 rw [List.getElem?_set] at h
 rw [if_pos rfl] at h
 split at h
 · exact (Option.some.inj (Option.some.inj h)).symm
 · cases h
theorem pss_ifNC {op : CmpOp} {r : R2} (hN : X.N.Nodup) (hi : X.N[i]? = some x) (hx : Loc X.env.scope x) (he : PE X e te) (ho : OpR X (compareOp op) r) (hb : PE X b tb) (hm : behindInMarks op b = false) (hp : PSs X p t) (hq : PSs X q u) (hr : PSs X rest tr)
   (hf : X.fn x = true ∨ X.env.scope.names.lookup x = some .local := by first | exact .inl rfl | exact .inr rfl | assumption) :
   PSs X (.If (.Compare (.NamedExpr (.Name x p1) e p2) [op] [b] p3) p q p4 :: rest) (tSeq (tAsg te (gName i)) (tSeq (tIfS (tTest (tOp r (tVar i) tb)) t u) tr)) := by
 refine ⟨fun pins s σ H D I h => ?_⟩
 refine (pss_cons (ps_ifW (ptw_cmp ho (pew_namedM hN hi hx he hf) hb hm) hp hq) hr).run pins s σ H D I ?_
 refine ⟨_, h, fun v H1 g => ?_⟩
 obtain ⟨w, ew, g⟩ := (show ∃ w, (σ.set i (some v))[i]? = some (some w) ∧ _ from g)
 obtain rfl := set_is ew
 exact g
end
section
variable {K : PySem.W.Frag} {H : Hp} {Q : VK} {v : V}
end
end G
namespace G
open PySem PySem.Spec PyProof.Rows L2
def yRt (us : List V) : Ty Unit where
 rep K H F v _ := ∃ a, v = .ref a ∧ F = [] ∧ SqT K H a us
 keep h k := by
   obtain ⟨a, e, f, s⟩ := h
   exact ⟨a, e, f, SqT.keeps s fun b o hb z => k b o hb (.inr z)⟩
 dom h b m := by obtain ⟨a, e, rfl, s⟩ := h; cases m
section
variable {K : PySem.W.Frag} {σ : L2.St} {H : Hp} {Q : VK} {v u : V} {F : List Addr} {α β : Type} {τ : Ty α}
theorem val_rt {us : List V} {n : Nat} {x : Unit} {ta tb : TE} (r : (yRt us).rep K H F v x) (h : us[n]? = some u) (ha : Val ta σ H v) (hb : Val tb σ H (.int (n : Int))) : Val (tOp (rIxT K) ta tb) σ H u := by
 obtain ⟨p, rfl, rfl, g⟩ := r
 exact val_op ha hb fun Q q => ⟨p, us, n, u, rfl, rfl, g, atI_nat h, q⟩
def yNd {α : Type} (τ : Ty α) : Ty α where
 rep K H F v d := τ.rep K H F v d ∧ F.Nodup
 keep h k := ⟨τ.keep h.1 k, h.2⟩
 dom h b m := τ.dom h.1 b m
theorem nd_app {F G : List Addr} (a : F.Nodup) (b : G.Nodup) (d : Dj F G) : (F ++ G).Nodup := List.nodup_append.mpr ⟨a, b, fun x hx y hy e => d x hx (e ▸ hy)⟩
theorem nn_ndt {ts : Tys α} {d : α} (r : (yNd (yTup ts)).rep K H F v d) : v ≠ .non := by
 obtain ⟨⟨a, vs, rfl, _⟩, _⟩ := r
 exact fun z => by cases z
theorem nd_t2 {τ1 : Ty α} {τ2 : Ty β} {d : α × β} (r : (yNd (yTup (sCons τ1 (sOne τ2)))).rep K H F v d) : ∃ u1 u2 F1 F2, (yRt [u1, u2]).rep K H [] v () ∧ τ1.rep K H F1 u1 d.1 ∧ τ2.rep K H F2 u2 d.2 ∧ (∀ a ∈ F1, a ∈ F) ∧ (∀ a ∈ F2, a ∈ F) ∧ Dj F1 F2 := by
 obtain ⟨⟨a, vs, rfl, s, v2, ws2, F1, F2, rfl, rfl, r1, v3, rfl, r2⟩, nd⟩ := r
 exact ⟨v2, v3, F1, F2, ⟨a, rfl, rfl, s⟩, r1, r2, fun a h => List.mem_append_left _ h, fun a h => List.mem_append_right _ h, fun a h1 h2 => (List.nodup_append.mp nd).2.2 a h1 a h2 rfl⟩
end
end G
namespace G
open PySem PySem.Spec PyProof.Rows L2
section
variable {K : PySem.W.Frag} {σ : L2.St} {H : Hp} {Q : VK} {v u : V} {F F2 : List Addr} {α : Type} {τ : Ty α} {n : Nat} {i : Int}
end
end G
namespace L2
open PySem PySem.Spec PyProof.Rows
def DictB (P : Program) (w : World) (h : Heap) (a : Addr) (xs : List (List Key × Addr × Value)) : Prop := xs.length ≤ sizeLine ∧ (a == sysModules) = false ∧
 ∃ (o : Obj) (es : Array DictEntry) (ep : Nat), h.get? a = some o ∧ o.ExactDict ∧ o.data = .dict es ep ∧ es.toList = xs.map (entryOfKey (tupleKind (mixKind P w))) ∧ (xs.map (·.1)).Nodup
def DictBO (P : Program) (w : World) (a : Addr) (xs : List (List Key × Addr × Value)) : HO := .ext fun h => DictB P w h a xs
section
variable {X : Cx} {pins : List (Addr × Obj)} {σ : St} {H : Hp} {s : Shared} {a b : Addr} {xs : List (List Key × Addr × Value)} {k : List Key}
end
section
variable {X : Cx}
end
section
variable {X : Cx}
end
section
variable {prog : Program} {w : World} {A : Around} {R : Result → Shared → Prop} {s : Shared} {elt t0 i0 t1 i1 : Expr} {ifs0 ifs1 : List Expr} {scope : Scope} {pos : Pos} {it acc : Value} {env : Env}
end
section
variable {X : Cx}
end
end L2
namespace L2
open PySem PySem.Spec PyProof.Rows
section
variable {X : Cx} {pins : List (Addr × Obj)} {σ : St} {H : Hp} {s : Shared} {d : Addr} {o : Obj} {xs : List (List Key × Addr × Value)}
end
section
variable {P : Program} {w : World} {K : PySem.W.Frag} {tg : Expr} {d : Addr} {o : Obj} {es : Array DictEntry} {ep : Nat} {xs : List (List Key × Addr × Value)} {vs : List V}
end
section
variable {X : Cx} {P : Program} {w : World} {K : PySem.W.Frag} {tg e : Expr} {td : TE} {apos cpos : Pos}
end
section
variable {X : Cx} {P : Program} {w : World} {K : PySem.W.Frag} {td : TE} {pos : Pos}
end
end L2
namespace G
open PySem PySem.Spec PyProof.Rows L2
abbrev Ent := List L2.Key × Addr × Value
def kk (x : Int × Int) : List L2.Key := [.inl x.1, .inl x.2]
section
variable {K : PySem.W.Frag} {H H' : Hp} {β γ : Type} {υ : Ty β} {q : Ent} {x : (Int × Int) × β}
def EntR (K : PySem.W.Frag) (H : Hp) (υ : Ty β) (q : Ent) (x : (Int × Int) × β) : Prop := q.1 = kk x.1 ∧ SqT K H q.2.1 ((kk x.1).map kV) ∧ ∃ v, RelV v q.2.2 ∧ υ.rep K H [] v x.2
theorem EntR.keep (r : EntR K H υ q x) (k : ∀ b o, H b = some o → Froz o → H' b = some o) : EntR K H' υ q x := by
 obtain ⟨e, s, v, rv, r⟩ := r
 exact ⟨e, SqT.keeps s k, v, rv, υ.keep r fun b o hb z => k b o hb (z.elim (fun y => nomatch y) id)⟩
theorem EntR.chg {M : List Addr} (r : EntR K H υ q x) (c : Chg M H H') : EntR K H' υ q x := r.keep fun b o h z => c.keep b o h (.inr z)
end
def yFd {β : Type} (P : Program) (w : World) (υ : Ty β) : Ty (List ((Int × Int) × β)) where
 rep K H F v d := F = [] ∧ ∃ a o xs, v = .ref a ∧ H a = some (.frz o (DictBO P w a xs)) ∧ Paired (EntR K H υ) xs d
 keep {K H H' F v d} h k := by
   obtain ⟨f, a, o, xs, e, g, r⟩ := h
   exact ⟨f, a, o, xs, e, k a _ g (.inr trivial), Paired.mapP r fun _ _ z => EntR.keep z fun b o hb f => k b o hb (.inr f)⟩
 dom {K H F v d} h b m := by rw [h.1] at m; cases m
section
variable {P : Program} {w : World} {K : PySem.W.Frag} {σ σ' : L2.St} {H H' : Hp} {F Fk Fu D0 : List Addr} {ta tb te tk tv : TE} {tt : TT} {v u z : V} {α β γ : Type} {τ : Ty α} {υ : Ty β} {Q : VK} {D : Ends} {g : TG} {ws : List Nat} {xs : List Ent} {d d' : List ((Int × Int) × β)} {k : Int × Int} {x : β}
end
structure FdAt {β : Type} (P : Program) (w : World) (υ : Ty β) (K : PySem.W.Frag) (a : Addr) (o : Obj) (xs : List Ent) (d : List ((Int × Int) × β)) (H : Hp) : Prop where
 g : H a = some (.frz o (DictBO P w a xs))
 ps : Paired (EntR K H υ) xs d
theorem FdAt.of {β : Type} {P : Program} {w : World} {υ : Ty β} {K : PySem.W.Frag} {H : Hp} {F : List Addr} {v : V} {d : List ((Int × Int) × β)} (r : (yFd P w υ).rep K H F v d) : ∃ a o xs, v = .ref a ∧ FdAt P w υ K a o xs d H := by
 obtain ⟨f, a, o, xs, e, g, ps⟩ := r
 exact ⟨a, o, xs, e, g, ps⟩
theorem FdAt.chg {β : Type} {P : Program} {w : World} {υ : Ty β} {K : PySem.W.Frag} {a : Addr} {o : Obj} {xs : List Ent} {d : List ((Int × Int) × β)} {M : List Addr} {H H' : Hp} (r : FdAt P w υ K a o xs d H) (c : Chg M H H') : FdAt P w υ K a o xs d H' := ⟨c.keep _ _ r.g (.inr trivial), Paired.mapP r.ps fun _ _ z => z.chg c⟩
section
variable {P : Program} {w : World} {K : PySem.W.Frag} {σ σ' : L2.St} {H H' H0 : Hp} {F Fk Fu M0 : List Addr} {ta tb te tk tv : TE} {tt : TT} {v u z : V} {α β γ : Type} {τ : Ty α} {υ : Ty β} {ω : Ty γ} {Q : VK} {D : Ends} {g : TG} {ws : List Nat} {xs : List Ent} {d d' : List ((Int × Int) × β)} {k : Int × Int} {x : β}
end
end G
namespace L2
open PySem PySem.Spec PyProof.Rows
section
variable {X : Cx}
end
end L2
namespace G
open PySem PySem.Spec PyProof.Rows L2
section
variable {P : Program} {w : World} {K : PySem.W.Frag} {σ σ' : L2.St} {H H' : Hp} {F Fk Fu : List Addr} {ta tb te : TE} {tt tt1 : TT} {v u z : V} {α β γ : Type} {τ : Ty α} {υ : Ty β} {ω : Ty γ} {Q : VK} {g g1 : TG} {ws ws1 : List Nat} {xs ys : List (Int × Int)} {d : Int × Int}
def ll (x : Int × Int) : List Int := [x.1, x.2]
def lp (l : List Int) : Int × Int := (l.getD 0 0, l.getD 1 0)
end
end G
namespace G
open PySem PySem.Spec PyProof.Rows L2
section
variable {P : Program} {w : World} {K : PySem.W.Frag} {σ σ' : L2.St} {H H' : Hp} {F Fk Fu : List Addr} {ta : TA} {te : TE} {tt : TT} {v u z : V} {α β γ : Type} {τ : Ty α} {υ : Ty β} {ω : Ty γ} {Q : VK} {D : Ends} {g : TG} {ws : List Nat}
end
end G
namespace G
open PySem PySem.Spec PyProof.Rows L2
section
variable {P : Program} {w : World} {K : PySem.W.Frag} {σ σ' : L2.St} {H H' : Hp} {F Fk Fu : List Addr} {ta : TA} {te : TE} {tt : TT} {v u z : V} {α β γ : Type} {τ : Ty α} {υ : Ty β} {ω : Ty γ} {Q : VK} {D : Ends} {g : TG} {ws : List Nat}
end
end G
namespace G
open PySem PySem.Spec PyProof.Rows L2
end G
namespace G
open PySem PySem.Spec PyProof.Rows L2
section
variable {P : Program} {w : World} {K : PySem.W.Frag} {σ σ' : L2.St} {H H' : Hp} {F Fi Fk Fu : List Addr} {ta tb : TE} {v u z : V} {α β γ : Type} {τ : Ty α} {i : Int} {Q : VK}
end
end G
namespace G
open PySem PySem.Spec PyProof.Rows L2
end G
namespace G
open PySem PySem.Spec PyProof.Rows L2
end G
namespace L2
open PySem PySem.Spec PyProof.Rows ItX
section
variable {X : Cx} {C f : Addr} {fd : FuncData} {k : Nat} {ps : List Str} {sp : Sp}
end
end L2
namespace G
open PySem PySem.Spec PyProof.Rows L2
section
variable {X : Cx} {K : PySem.W.Frag} {σ : L2.St} {H : Hp} {F : List Addr} {v x y : V} {Q : VK} {C : Addr} {ns : List Str} {α β : Type} {ts : Tys β} {τ : Ty α} {te ta tb : TE} {tm : Str → TS} {D : Ends} {a : List Nat}
theorem strsP : ∀ ss : List (List Nat), Paired (fun u x => yStr.rep K H [] u x) (ss.map fun s => V.str (toS s)) ss
 | [] => .nil
 | s :: ss => .cons ⟨rfl, rfl⟩ (strsP ss)
theorem tupAt_strs {a : Addr} {ss : List (List Nat)} (h : tupAt K a (ss.map fun s => He.Dv.str (toS s)) = true) (H : Hp) : (yTupL yStr).rep K H [] (.ref a) ss :=
 ⟨a, ss.map fun s => V.str (toS s), rfl, rfl, by have := tupAt_ok h H; rw [List.map_map] at this; exact this, strsP ss⟩
theorem strs_sqT {xs : List (List Nat)} (r : (yTupL yStr).rep K H F v xs) : ∃ p, v = .ref p ∧ SqT K H p (xs.map fun x => V.str (toS x)) := by
 obtain ⟨p, vs, rfl, s, q⟩ := tupl_sq r
 have e : vs = xs.map fun x => V.str (toS x) := by
   clear s r
   induction q with
   | nil => rfl
   | cons h t ih => obtain ⟨_, rfl⟩ := h; rw [ih]; rfl
 subst e
 exact ⟨p, rfl, s⟩
theorem w_inTS {xs : List (List Nat)} (r : (yTupL yStr).rep K H F v xs) (k : Q (.bl (xs.contains a)) H) : rIn K false (.str (toS a)) v H Q := by
 obtain ⟨p, rfl, s⟩ := strs_sqT r
 exact ⟨p, _, rfl, .inr s, rfl, flat_strs xs, by rw [if_neg Bool.false_ne_true, in_strs]; exact k⟩
theorem val_inTS {xs : List (List Nat)} (r : (yTupL yStr).rep K H F v xs) (ha : Val ta σ H (.str (toS a))) (hb : Val tb σ H v) : Val (tOp (rIn K false) ta tb) σ H (.bl (xs.contains a)) := val_op ha hb fun Q q => w_inTS r q
end
end G
namespace G
open PySem PySem.Spec PyProof.Rows L2
section
variable {X : Cx} {K : PySem.W.Frag} {σ : L2.St} {H : Hp} {F F2 : List Addr} {v u : V} {Q : VK} {α β : Type} {τ : Ty α} {xs ys zs : List α} {lo hi : Option Int}
theorem sl_tA {K : PySem.W.Frag} (e : X.K = K := by rfl) : SlR X (rSlA K) := by subst e; exact sl_tupA
theorem op_catTK {K : PySem.W.Frag} (e : X.K = K := by rfl) : OpR X (binaryOp .Add) (rCatT K) := by subst e; exact op_catT
theorem w_cutTA (r : (yTupL τ).rep K H F v xs) (k : ∀ u H', Chg [] H H' → (yTupL τ).rep K H' [] u (Mi.cut xs lo hi) → Q u H') : rSlA K v lo hi H Q := by
 obtain ⟨p, vs, rfl, s, q⟩ := tupl_sq r
 refine ⟨p, vs, rfl, s, fun h => ?_, fun _ n nn => ?_⟩
 · have e : Mi.cut xs lo hi = xs := by
     have l := pr_len q
     rw [← cut_eq, ← l, h.1, h.2, l, List.drop_zero, Nat.sub_zero, List.take_length]
   refine k _ _ (Chg.refl H) ?_
   rw [e]
   exact ⟨p, vs, rfl, rfl, s, q⟩
 · exact k _ _ (Chg.lay nn trivial) ⟨n, _, rfl, rfl, .inl (.inl upd_same), Paired.mapP (pr_cut q lo hi) fun _ _ z => Ty.ex z (Chg.lay nn trivial)⟩
theorem w_catT (r : (yTupL τ).rep K H F v xs) (r2 : (yTupL τ).rep K H F2 u ys) (hm : Mi.catN xs ys = some zs) (k : ∀ w H', Chg [] H H' → (yTupL τ).rep K H' [] w zs → Q w H') : rCatT K v u H Q := by
 obtain ⟨p, vs, rfl, s, q⟩ := tupl_sq r
 obtain ⟨p2, vs2, rfl, s2, q2⟩ := tupl_sq r2
 unfold Mi.catN at hm
 split at hm
 · rename_i c
   obtain rfl := Option.some.inj hm
   have l1 := pr_len q
   have l2 := pr_len q2
   refine ⟨p, p2, vs, vs2, rfl, rfl, s, s2, fun e => ?_, ?_, fun e => ?_, fun _ n nn => ?_⟩
   · subst e; exact c.1 (List.eq_nil_of_length_eq_zero (by rw [← l1]; rfl))
   · rw [l1, l2]; exact bigS c.2
   · subst e
     obtain rfl : ys = [] := List.eq_nil_of_length_eq_zero (by rw [← l2]; rfl)
     rw [List.append_nil] at k
     exact k _ _ (Chg.refl H) ⟨p, vs, rfl, rfl, s, q⟩
   · refine k _ _ (Chg.lay nn trivial) ⟨n, _, rfl, rfl, .inl (.inl upd_same), ?_⟩
     exact pr_app (Paired.mapP q fun _ _ z => Ty.ex z (Chg.lay nn trivial)) (Paired.mapP q2 fun _ _ z => Ty.ex z (Chg.lay nn trivial))
 · cases hm
end
end G
namespace PySem
namespace ErrI_index
open PySem.W PySem.Calls PyProof.Rows PySem.HandSPX
open PySem.ErrX (ldX one_size)
def eA (p1 p2 : Pos) : Arguments := { posonlyargs := [], args := [{ arg := "self", annotation := none, pos := p1 }, { arg := "index", annotation := none, pos := p2 }], vararg := none, kwonlyargs := [], kw_defaults := [], kwarg := none, defaults := [] }
def eB (m : Str) (p0 p1 p2 p3 p4 p5 p6 p7 q1 q2 q3 q4 r5 r6 : Pos) : List Stmt :=
 [.Expr (.Call (.Attribute (.Call (.Name "super" p0) [] [] p1) "__init__" p2) [.BinOp (.Constant (.str m) 0 p3) .Add (.Call (.Name "str" r5) [.Name "index" p4] [] r6) p5] [] p6) p7, .Assign [.Attribute (.Name "self" q1) "index" q2] (.Name "index" q3) q4]
def eS : Scope := { kind := .function, names := [(PySem.Str.ofString "self", .local), (PySem.Str.ofString "index", .local), (PySem.Str.ofString "__class__", .free), (PySem.Str.ofString "super", .globalImplicit), (PySem.Str.ofString "str", .globalImplicit)], isGenerator := false, isCoroutine := false, more := [] }
structure ErrTxt (P : Program) (K : Frag) (mg : Str → Option Value) (x qual : Str) (st : Stmt) (C fI : Addr) : Prop where
 gC : mg x = some (.ref C)
 cls : ∃ nm q N bs bm sn sub ab col dd k0 k1 k2 k3 k5, K.lookup C = some (excClassObj nm q C N bs bm true sn sub ab col dd k0 k1 k2 k3 k5 "ValueError.__new__") ∧ refsVE bm = true
 sa : findIn K (.ref C) "__setattr__" = some (some (.builtin "object.__setattr__"))
 ga : findIn K (.ref C) "__getattribute__" = some (some (.builtin "BaseException.__getattribute__"))
 gg : findIn K (.ref C) "__getattr__" = some none
 noN : findIn K (.ref C) "index" = some none
 iC : findIn K (.ref C) "__init__" = some (some (.ref fI))
 tC : typeIn K (.ref fI) = some (.type "function")
 kC : keepIn K (.ref C) = true
 exC : subIn K (.ref C) (.type "BaseException") = some true
 veC : subIn K (.ref C) (.type "ValueError") = some true
 tyC : typeIn K (.ref C) = some (.type "type")
 hdC : hasDictIn K C = true
 mroC : mroIn K C (.ref C) = some true
 sup : ks_superIn K C C "__init__" = some (some (.builtin "ValueError.__init__"))
 opq : nsIn K cStatics "thirdparty.any" = some none
 nsu : mg "super" = none
 nst : mg "str" = none
 top : (P.main.scope.names.lookup ("super" : Str)).isSome = false
 fn : ∃ (oc : Value) (od : Option Addr) (doc pm : Value) (an : Option Addr) (cda : Addr) (ct : Value) (cc : Addr) (osl : Array (Option Value)),
   K.lookup fI = some ⟨oc, od, .func (ksFn "__init__" qual (L2.defArgs st) (L2.defBody st) (L2.defScope st) .none .none doc pm an (.ref cda) ct cc), osl⟩ ∧ codeIn K (.ref cda) qual = true ∧
   (∃ (ccl : Value) (cdd : Option Addr) (vs : Array Value) (ccs : Array (Option Value)) (file : Str) (tf : Tok), K.lookup cda = some ⟨ccl, cdd, .fields vs, ccs⟩ ∧ vs[2]? = some (.str file tf) ∧ ((P.main.file : Str) == file) = true) ∧
   ∃ (cl : Value) (cld : Option Addr) (csl : Array (Option Value)), K.lookup cc = some ⟨cl, cld, .cell (some (.ref C)), csl⟩
 shape : ∃ (msg : Str) (r1 r2 p0 p1 p2 p3 p4 p5 p6 p7 q1 q2 q3 q4 r5 r6 : Pos), L2.defArgs st = eA r1 r2 ∧ L2.defBody st = eB msg p0 p1 p2 p3 p4 p5 p6 p7 q1 q2 q3 q4 r5 r6 ∧ L2.defScope st = eS ∧ msg.length ≤ 100 ∧
   ∀ L f cda cc : Addr, ∃ pl : Sem Bool, eval (.Call (.Attribute (.Call (.Name "super" p0) [] [] p1) "__init__" p2) [.BinOp (.Constant (.str msg) 0 p3) .Add (.Call (.Name "str" r5) [.Name "index" p4] [] r6) p5] [] p6) (ksEnv qual eS L f (.ref cda) cc) = (do
     let ov ← attributeBase (.Call (.Name "super" p0) [] [] p1) "__init__" (ksEnv qual eS L f (.ref cda) cc) (eval (.Call (.Name "super" p0) [] [] p1) (ksEnv qual eS L f (.ref cda) cc))
     standAt p2.atName
     let (f', first) ← holding [ov] (getMethod ov "__init__" pl)
     callWith p6 f' first (backTo p6 (starEach [.BinOp (.Constant (.str msg) 0 p3) .Add (.Call (.Name "str" r5) [.Name "index" p4] [] r6) p5] (ksEnv qual eS L f (.ref cda) cc))) [])
structure InitEnd (h h' : Heap) (x C dx : Addr) (v : Value) : Prop where
 keep : ∀ b o, b ≠ x → h.get? b = some o → h'.get? b = some o
 obj : ∃ t1 : Addr, h'.get? x = some { cls := .ref C, dict := some dx, data := .fields #[.ref t1, .none, .none, .none, .bool false, .none] }
 dbig : h.objs.size ≤ dx
 dne : dx ≠ x
 ns : h'.Ns1 dx (fun y => if y = "index" then some v else none)
section
variable {prog : Program} {w : World} {A : Around} {E : Value → Shared → Prop} {R : Result → Shared → Prop} {s : Shared} {K : Frag} {mg mb : Str → Option Value} {C fI : Addr} {cn qual : Str} {st : Stmt}
theorem err_init (T : ErrTxt prog K mg cn qual st C fI) {x t0 : Addr} {y : Int} {ty : Tok} (X : K.In s.heap) (hg : s.heap.Ns mainGlobals mg) (hb : s.heap.Ns builtinsNs mb) (hbs : mb "super" = bootBuiltins "super") (hbt : mb "str" = bootBuiltins "str") (hlim : s.heap.NoLimit) (hx : s.heap.get? x = some (excO C t0)) (hnx : K.lookup x = none) (hy : y.natAbs.log2 < 1920) (hroom : A.depth < recursionLimit)
   (hq : ∀ h' tk dx, InitEnd s.heap h' x C dx (.int y ty) → R (.ok (.ret .none)) { s with heap := h', toks := tk }) :
   codeAny (model prog w) A (.call (.ref fI) ⟨[.ref x, .int y ty], []⟩) R s := by
 obtain ⟨oc, od, doc, pm, an, cda, ct, cc, osl, ho, hcd, ⟨ccl, cdd, vs, ccs, file, tf, hcode, hvs, hfile⟩, cl, cld, csl, hcell⟩ := T.fn
 obtain ⟨msg, r1, r2, p0, p1, p2, p3, p4, p5, p6, p7, q1, q2, q3, q4, r5, r6, eA', eB', eS', hml, hev⟩ := T.shape
 rw [eA', eB', eS'] at ho
 obtain ⟨nm, q, N, bs, bm, sn, sub, ab, col, dd, k0, k1, k2, k3, k5, hC, hbm⟩ := T.cls
 have hcl : clsIn K C = some { name := nm, bases := bs, mro := .ref C :: bm, ns := N, qualname := q, hasDict := true, slotNames := sn, subclasses := sub, abstract := ab, collection := col, hasDel := false } := by unfold clsIn; rw [hC] <;> rfl
 refine ks_codeAny_call_defAt (fd := ksFn "__init__" qual (eA r1 r2) (eB msg p0 p1 p2 p3 p4 p5 p6 p7 q1 q2 q3 q4 r5 r6) eS .none .none doc pm an (.ref cda) ct cc) (body := eB msg p0 p1 p2 p3 p4 p5 p6 p7 q1 q2 q3 q4 r5 r6) (binds := [("self", .ref x), ("index", .int y ty)]) hroom (X _ _ ho) rfl hlim (codeRec_of X hcd) rfl (BindsTo.of_eq (by first | rfl | with_unfolding_all rfl)) (fun z hz => by revert z; show ∀ z ∈ eS.names, z.2 ≠ NameKind.cell; decide) (by first | decide | (intro z hz; simp at hz; rcases hz with rfl | rfl <;> rfl)) (fun h₁ hns k => ?_) rfl rfl rfl
 have X₁ : K.In h₁ := X.keeps k
 have hx₁ := k _ _ hx
 show wpAt (model prog w) _ _ (execs (_ :: _) (ksEnv qual eS s.heap.objs.size fI (.ref cda) cc)) _ _ _
 obtain ⟨pl, he⟩ := hev s.heap.objs.size fI cda cc
 refine ks_wpAt_execs_cons (ks_wpAt_Expr_any (ks_wpAt_MethodCall (pl := pl) (he := he) ?_))
 obtain ⟨oD, hD1, hD2⟩ : ∃ oD, h₁.get? C = some oD ∧ oD.data = .cls { name := nm, bases := bs, mro := .ref C :: bm, ns := N, qualname := q, hasDict := true, slotNames := sn, subclasses := sub, abstract := ab, collection := col, hasDel := false } := ⟨_, X₁ _ _ hC, rfl⟩
 refine ks_wpAt_super_base (env := ksEnv qual eS s.heap.objs.size fI (.ref cda) cc) rfl rfl rfl rfl (X₁ _ _ ho) rfl rfl rfl (X₁ _ _ hcode) rfl hvs hfile T.top ?_
 refine ks_loadName_global rfl rfl (loadGlobal_builtin (env := ksEnv qual eS s.heap.objs.size fI (.ref cda) cc) (hg.keeps k) T.nsu (hb.keeps k) (hbs.trans (by decide +kernel)) ⟨rfl, ?_⟩)
 refine wpAny_loadName_free rfl rfl rfl ⟨_, X₁ _ _ hcell, rfl⟩ ?_
 refine wpAny_loadName_local rfl rfl hns (v := .ref x) rfl ?_
 refine ks_wpAny_isType_cls hD1 hD2 ⟨rfl, ?_⟩
 refine ks_wpAny_call_super hD1 hD2 hx₁ rfl (fun c e => by cases e) (looks_mroIn X₁ T.mroC) (fun h₂ hso k₂ => ?_)
 have X₂ : K.In h₂ := X₁.keeps k₂
 have hx₂ := k₂ _ _ hx₁
 have I₂ : InstAt h₂ x (excO C t0) C none := ⟨hx₂, rfl, rfl, trivial⟩
 have hI : Looks (model prog w) h₂ (isInstance (.ref x) (.type "ValueError")) true := I₂.type.andThen (looks_subIn X₂ T.veC)
 have hsup := T.sup
 unfold ks_superIn at hsup
 rw [hcl] at hsup
 refine kxs_getMethod kxs_ValueError hso (looks_opaque X₂ T.opq) (l₀ := .ref C :: bm) (fun A Q E s k q => wpAny_bind ((looks_clsIn X₂ hcl) A _ E s k (wpAny_pure q))) rfl X₂ hsup hI (ks_ne X₂ I₂ hcl) rfl ?_
 have k₃ : ∀ b o, h₂.get? b = some o → (h₂.push (kxs_mw "ValueError.__init__" x)).get? b = some o := fun b o e => Heap.get?_push_of_some _ e
 have hu : (h₂.push (kxs_mw "ValueError.__init__" x)).get? h₂.objs.size = some (kxs_mw "ValueError.__init__" x) := Heap.get?_push_at rfl rfl
 have hns₃ : (h₂.push (kxs_mw "ValueError.__init__" x)).Ns s.heap.objs.size (fun y' => ([("self", .ref x), ("index", Value.int y ty)] : List (Str × Value)).reverse.lookup y') := (hns.keeps k₂).keeps k₃
 refine kxs_callWith (i := "ValueError.__init__") (x := x) rfl (evalArgs_plain (args_cons (wpAny_BinOp (wpAny_Constant_str ?_)) rfl))
 refine wpAny_Call_Name_kw (wpAny_Name (ks_loadName_global (env := ksEnv qual eS s.heap.objs.size fI (.ref cda) cc) rfl rfl (loadGlobal_builtin (env := ksEnv qual eS s.heap.objs.size fI (.ref cda) cc) (((hg.keeps k).keeps k₂).keeps k₃) T.nst (((hb.keeps k).keeps k₂).keeps k₃) (v := .type "str") (hbt.trans (by decide +kernel)) ?_)) (by decide))
 refine PyProof.Rows.callWith_type1 (args_cons (ldX hns₃ (v := .int y ty) rfl ?_) rfl)
 refine args_nil (P.str_of_int hy ?_)
 refine add_str (fun t' tk => args_nil ⟨hu, ?_⟩) (by
   rw [ofString_length, sizeLine_eq]
   have := int_text_length_le (k := 1920) (by decide) hy
   omega)
 refine wpAny_call (codeAny_of_tree ?_)
 show wpAny _ _ (callAny (.ref h₂.objs.size) ⟨_, []⟩) _ _ _
 simp only [callAny]
 refine wpAny_bind (wpAny_load hu ?_)
 simp only [kxs_mw, show (Value.type "method-wrapper" == Value.type "method" || Value.type "method-wrapper" == Value.type "builtin_function_or_method" || Value.type "method-wrapper" == Value.type "method-wrapper") = true by decide, if_true]
 refine KFB.if_so (by decide) ?_
 refine wpAny_bind (check_bound_init F.excBase_ValueError.toExcCallFacts (k₃ _ _ (X₂ _ _ hC)) (k₃ _ _ hx₂) rfl ?_)
 refine wpAny_bind (wpAny_pure (wpAny_pure ?_))
 refine ⟨plainId_quiet F.excBase_ValueError.init.plain _, codeAny_builtin F.excBase_ValueError.initEntry ?_⟩
 refine exc_init_tree (cls := .ref C) (t0 := t0) (dv := none) (c2 := .none) (c3 := .none) (b4 := .bool false) (k₃ _ _ hx₂) (by rw [sizeLine_eq]; exact (by decide : 1 ≤ 16777216)) fun h₄ k₄ hx₄ _ => ?_
 show wpAt (model prog w) _ _ (execs (_ :: _) (ksEnv qual eS s.heap.objs.size fI (.ref cda) cc)) _ _ _
 have kk : ∀ b o, b ≠ x → s.heap.get? b = some o → h₄.get? b = some o := fun b o hb e => k₄ b o hb (k₃ b o (k₂ b o (k b o e)))
 have hLx : s.heap.objs.size ≠ x := Nat.ne_of_gt (Heap.lt_size hx)
 have hns₄ : h₄.Ns s.heap.objs.size (fun y' => ([("self", .ref x), ("index", Value.int y ty)] : List (Str × Value)).reverse.lookup y') := by
   obtain ⟨oL, es, ep, hL, r⟩ := hns₃
   exact ⟨oL, es, ep, k₄ _ _ hLx hL, r⟩
 have X₄ : K.In h₄ := fun b o e => k₄ b o (fun z => by
   rw [z, hnx] at e; cases e) (k₃ b o (X₂ _ _ e))
 refine wpAt_of_wpAny (wpAny_execs_cons (plainObj_wpAny_Assign_Attribute ?_))
 refine ldX (v := .int y ty) hns₄ rfl (ldX (v := .ref x) hns₄ rfl ?_)
 refine set_plain X₄ (ox := excO C (h₂.push (kxs_mw "ValueError.__init__" x)).objs.size) (od := none) ⟨hx₄, rfl, rfl, trivial⟩ T.sa ?_
 refine exc_osa X₄ hx₄ hcl (show refsVE (.ref C :: bm) = true from hbm) rfl T.noN (fun h₅ tk₅ dx k₅ dn dne hx₅ hn₅ => ?_)
 show wpAny _ _ (execs _ _) _ _ _
 have z : s.heap.objs.size < h₄.objs.size := hns₄.lt
 exact wpAny_execs_nil (hq h₅ tk₅ dx ⟨fun b o hb e => k₅ b o hb (kk b o hb e), ⟨_, hx₅⟩, Nat.le_of_lt (Nat.lt_of_lt_of_le z dn), dne, hn₅⟩)
structure OwnMade (h h' : Heap) (e C d : Addr) (v : Value) : Prop where
 keep : ∀ b o, h.get? b = some o → h'.get? b = some o
 new : h.objs.size ≤ e
 obj : ∃ oe vs, h'.get? e = some oe ∧ oe.cls = .ref C ∧ oe.dict = some d ∧ oe.data = .fields vs ∧ vs[1]? = some .none ∧ vs[2]? = some .none
 dbig : h.objs.size ≤ d
 dne : d ≠ e
 ns : h'.Ns1 d (fun y => if y = "index" then some v else none)
theorem err_made (T : ErrTxt prog K mg cn qual st C fI) {y : Int} {ty : Tok} (X : K.In s.heap) (hg : s.heap.Ns mainGlobals mg) (hb : s.heap.Ns builtinsNs mb) (hbs : mb "super" = bootBuiltins "super") (hbt : mb "str" = bootBuiltins "str") (hlim : s.heap.NoLimit) (hy : y.natAbs.log2 < 1920) (hroom : A.depth + 1 < recursionLimit)
   (hq : ∀ h' tk e d, OwnMade s.heap h' e C d (.int y ty) → R (.ok (.ret (.ref e))) { s with heap := h', toks := tk }) :
   codeAny (model prog w) A (.call (.ref C) ⟨[.int y ty], []⟩) R s := by
 obtain ⟨nm, q, N, bs, bm, sn, sub, ab, col, dd, k0, k1, k2, k3, k5, hC, hbm⟩ := T.cls
 obtain ⟨hp, g, dr, tk, os⟩ := s
 have k : ∀ b o, hp.get? b = some o → ((hp.push (kdv_tup [.int y ty])).push (excO C hp.objs.size)).get? b = some o := fun b o e => Heap.get?_push_of_some _ (Heap.get?_push_of_some _ e)
 have hget : ((hp.push (kdv_tup [.int y ty])).push (excO C hp.objs.size)).get? (hp.objs.size + 1) = some (excO C hp.objs.size) := by heap_get
 have hnx : K.lookup (hp.objs.size + 1) = none := by
   cases e : K.lookup (hp.objs.size + 1) with
   | none => rfl
   | some o =>
     have z : hp.get? (hp.objs.size + 1) = some o := X _ _ e
     exact absurd (Nat.lt_of_succ_lt (Heap.lt_size z)) (Nat.lt_irrefl _)
 refine call_own F.excBase_ValueError (fun X => refsVE_contains X bm hbm) (X _ _ hC) (looks_findIn X T.iC) (fun self => bind_fn X self T.tC) (one_size _) ?_
 refine err_init (s := ⟨(hp.push (kdv_tup [.int y ty])).push (excO C hp.objs.size), g, dr, tk, os⟩) T (X.keeps k) (hg.keeps k) (hb.keeps k) hbs hbt (hlim.keeps k) hget hnx hy ?_ fun h' tk' dx ⟨k', ⟨t1, hx⟩, dn, dne, hns⟩ => ?_
 · show A.depth + 1 < recursionLimit
   exact hroom
 · have old : ∀ b o, hp.get? b = some o → h'.get? b = some o := fun b o e => k' b o (Nat.ne_of_lt (Nat.lt_succ_of_lt (Heap.lt_size e))) (k b o e)
   have z : hp.objs.size + 1 + 1 ≤ dx := by
     first
       | (simpa only [Heap.size_push] using dn)
       | exact dn
       | (have q := dn; rw [Heap.size_push, Heap.size_push] at q; exact q)
   exact ⟨rfl, hq h' tk' (hp.objs.size + 1) dx ⟨old, Nat.le_succ _, ⟨_, _, hx, rfl, rfl, rfl, rfl, rfl⟩, Nat.le_trans (Nat.le_trans (Nat.le_succ _) (Nat.le_succ _)) z, dne, hns⟩⟩
end
end ErrI_index
end PySem
namespace L2
open PySem PySem.Spec PyProof.Rows
theorem relO_index {v : V} {v' : Value} (r : RelV v v') (f : Str) : RelO (List.lookup f [(("index" : Str), v)]) (if f = "index" then some v' else none) := by
 by_cases hw : f = "index"
 · subst hw
   rw [if_pos rfl]
   have q : List.lookup ("index" : Str) [(("index" : Str), v)] = some v := by simp [List.lookup]
   rw [q]
   exact r
 · rw [if_neg hw]
   have qw : (f == ("index" : Str)) = false := by simpa using hw
   have q2 : List.lookup f [(("index" : Str), v)] = none := by simp [List.lookup, qw]
   rw [q2]
   trivial
section
variable {X : Cx} {C fI : Addr} {cn qual : Str} {st : Stmt}
def tMkErr_index (C : Addr) (ta : TA) : St → Hp → XK → Prop := fun σ H Q => ta σ H fun vs H1 => ∃ y : Int, vs = [.int y] ∧ y.natAbs.log2 < 1920 ∧ ∀ d, H1 d = none → Q (.ref C) (some d) (upd H1 d (.xd [(("index" : Str), .int y)]))
theorem pmk_err_index {a : Expr} {ta : TA} {p pos : Pos} {k : Nat} (T : PySem.ErrI_index.ErrTxt X.prog X.K X.mg cn qual st C fI) (hr : Room k X.A) (ha : PA X [a] ta) (hg : Gl X cn := by rfl) (hdb : (cn == ("__debug__" : Str)) = false := by decide)
   (he : starEach (a :: []) X.env = (false, eval a X.env) :: starEach [] X.env := by rfl) (hpl : (backTo pos (starEach [] X.env)).any (·.1) = false := by rfl) :
   L2N.PMk X (.Call (.Name cn p) [a] [] pos) (tMkErr_index C ta) := by
 intro pins s σ H Q I h
 refine wpAny_Call_Name_kw (ld_glob I hg T.gC ?_ hdb)
 refine PySem.W.callWith_K (h₀ := X.base) I.ok.mod.kin T.kC (thn (ha.run pos pins s σ H _ I h) fun us s1 hh => ?_) he hpl
 obtain ⟨vs, H1, I1, r1, y, ev, hy, q1⟩ := hh
 subst ev
 refine ⟨I1.kIn, ?_⟩
 obtain ⟨v', rfl, rv⟩ := r1.one
 obtain ⟨ty, rfl⟩ := rv
 show wpAny _ _ (call (.ref C) [.int y ty]) _ _ _
 have hlim := I1.nolimit
 have hkb : ∀ b o, X.base.get? b = some o → s1.heap.get? b = some o := fun b o e => (I1.env0.bs b o e).1
 obtain ⟨mb, hbn, hbb⟩ := I1.ok.mod.blt
 obtain ⟨hp, g, dr, tk, os⟩ := s1
 refine wpAny_call (PySem.ErrI_index.err_made T I1.kIn (I1.ok.mod.glob.keeps hkb) (hbn.keeps hkb) (hbb "super" (by decide)) (hbb "str" (by decide)) hlim hy (by have := hr.dp; omega) fun h' tk' e d M => ?_)
 show L2N.MkP X pins σ Q (.ref e) ⟨h', g, dr, tk', os⟩
 obtain ⟨oe, fv, hoe, hc, hd, hdat, h1, h2⟩ := M.obj
 have hns := M.ns
 obtain ⟨G', g1, g2⟩ := restrict h' fun b => decide (b ≠ e)
 have gk : ∀ b, b ≠ e → G'.get? b = h'.get? b := fun b hb => g1 b (decide_eq_true hb)
 have ge : G'.get? e = none := g2 e (by simp)
 have old : ∀ b o, hp.get? b = some o → G'.get? b = some o := fun b o q => (gk b (Nat.ne_of_lt (Nat.lt_of_lt_of_le (Heap.lt_size q) M.new))).trans (M.keep b o q)
 have ob : ObjOk X.prog X.w (upd H1 d (.xd [(("index" : Str), .int y)])) G' d (.xd [(("index" : Str), .int y)]) :=
   ⟨_, hns.at (fun o q => (gk d M.dne).trans q), fun f => relO_index (show RelV (.int y) (.int y ty) from ⟨ty, rfl⟩) f⟩
 have J : Inv X pins σ (upd H1 d (.xd [(("index" : Str), .int y)])) ⟨G', g, dr, tk', os⟩ := I1.laid (t' := tk') old M.dbig ob
 refine ⟨e, oe, fv, ⟨G', g, dr, tk', os⟩, _, .ref C, some d, rfl, J, fun b o q => ?_, ge, hoe, ⟨hc, hd, fun vs0 e0 => by rw [hdat] at e0; obtain rfl := Data.fields.inj e0; exact h2⟩, hdat, h1, ?_, rfl, I1.bare, raises_own T.exC T.tyC, q1 d (I1.hok.fresh M.dbig)⟩
 · by_cases hb : b = e
   · have q' : G'.get? b = some o := q
     rw [hb, ge] at q'; cases q'
   · exact (gk b hb).symm.trans q
 · rw [upd_ne (Ne.symm M.dne)]
   exact I1.hok.fresh M.new
end
end L2
namespace G
open PySem PySem.Spec PyProof.Rows L2
section
variable {K : PySem.W.Frag} {σ : L2.St} {H : Hp} {Q : VK} {C : Addr} {D : Ends} {t2 : TS} {te : TE} {a dd : Addr} {fs : List (Str × V)}
theorem q_raise_index {y : Int} {s : List Nat} {W : WX} (hs : Mi.sOfI y = some s) (h : Val te σ H (.int y)) (k : ∀ d, H d = none → W (.ref C) (some d) σ (upd H d (.xd [(("index" : Str), .int y)]))) :
   tSeq (fun _ σ H => tMkErr_index C (tCons te tNil) σ H fun cls d H' => W cls d σ H') t2 D σ H :=
 h _ ⟨y, rfl, (sOfI_ok hs).1, k⟩
theorem lk_index {v : V} : List.lookup ("index" : Str) [(("index" : Str), v)] = some v := by simp [List.lookup]
theorem val_xf_index {y : Int} (h : Val te σ H (.ref a)) (hd : H dd = some (.xd [(("index" : Str), .int y)])) : Val (tXf a (.ref C) (some dd) C "index" te) σ H (.int y) := fun Q q =>
 h _ ⟨rfl, rfl, dd, _, _, rfl, hd, lk_index, q⟩
end
theorem err_of_index {P : Program} {K : PySem.W.Frag} {mg : Str → Option Value} {h : Heap} (X : K.In h) (G : h.Ns mainGlobals mg) {d : ErrD} {file : Str} (e : fnN K (d.x, some "__init__") = d.val) (c : d.ok K file = true) (g : (He.Fa.glo d.x).ok K = true) (s : (He.Fa.free "super").ok K = true) (s2 : (He.Fa.free "str").ok K = true)
   (hno : PySem.W.findIn K (.ref (He.ga K d.x)) "index" = some none)
   (top : (P.main.scope.names.lookup ("super" : Str)).isSome = false) (hf : (P.main.file : Str) = file)
   (shape : ∃ (msg : Str) (r1 r2 p0 p1 p2 p3 p4 p5 p6 p7 q1 q2 q3 q4 r5 r6 : Pos), L2.defArgs d.st = PySem.ErrI_index.eA r1 r2 ∧ L2.defBody d.st = PySem.ErrI_index.eB msg p0 p1 p2 p3 p4 p5 p6 p7 q1 q2 q3 q4 r5 r6 ∧ L2.defScope d.st = PySem.ErrI_index.eS ∧ msg.length ≤ 100 ∧
   ∀ L f cda cc : Addr, ∃ pl : Sem Bool, eval (.Call (.Attribute (.Call (.Name "super" p0) [] [] p1) "__init__" p2) [.BinOp (.Constant (.str msg) 0 p3) .Add (.Call (.Name "str" r5) [.Name "index" p4] [] r6) p5] [] p6) (PySem.W.ksEnv d.qual PySem.ErrI_index.eS L f (.ref cda) cc) = (do
     let ov ← attributeBase (.Call (.Name "super" p0) [] [] p1) "__init__" (PySem.W.ksEnv d.qual PySem.ErrI_index.eS L f (.ref cda) cc) (eval (.Call (.Name "super" p0) [] [] p1) (PySem.W.ksEnv d.qual PySem.ErrI_index.eS L f (.ref cda) cc))
     standAt p2.atName
     let (f', first) ← holding [ov] (getMethod ov "__init__" pl)
     callWith p6 f' first (backTo p6 (starEach [.BinOp (.Constant (.str msg) 0 p3) .Add (.Call (.Name "str" r5) [.Name "index" p4] [] r6) p5] (PySem.W.ksEnv d.qual PySem.ErrI_index.eS L f (.ref cda) cc))) [])) :
   PySem.ErrI_index.ErrTxt P K mg d.x d.qual d.st (He.ga K d.x) (He.fAd K (d.x, some "__init__")) ∧ ErrK K (He.ga K d.x) := by
 obtain ⟨c1, c2⟩ := He.ba c
 obtain ⟨a1, c1⟩ := He.ba c1
 obtain ⟨a2, c1⟩ := He.ba c1
 obtain ⟨a3, c1⟩ := He.ba c1
 obtain ⟨a4, c1⟩ := He.ba c1
 obtain ⟨a5, c1⟩ := He.ba c1
 obtain ⟨a6, c1⟩ := He.ba c1
 obtain ⟨a7, c1⟩ := He.ba c1
 obtain ⟨a8, c1⟩ := He.ba c1
 obtain ⟨a9, c1⟩ := He.ba c1
 obtain ⟨a10, c1⟩ := He.ba c1
 obtain ⟨a11, c1⟩ := He.ba c1
 obtain ⟨a12, c1⟩ := He.ba c1
 obtain ⟨a13, c1⟩ := He.ba c1
 obtain ⟨a14, c1⟩ := He.ba c1
 obtain ⟨a15, c1⟩ := He.ba c1
 obtain ⟨a16, c1⟩ := He.ba c1
 obtain ⟨a17, c1⟩ := He.ba c1
 obtain ⟨a18, c1⟩ := He.ba c1
 obtain ⟨a19, a20⟩ := He.ba c1
 subst hf
 obtain ⟨oc, od, doc, pm, an, cda, ct, cc, osl, ho, hcd, hcode, hcell⟩ := errF_ok e c2
 exact ⟨⟨He.glo_ok X G g, excB_ok a1, of_decide_eq_true a2, of_decide_eq_true a3, of_decide_eq_true a4, hno, of_decide_eq_true a6, of_decide_eq_true a7, a8, of_decide_eq_true a9, of_decide_eq_true a10, of_decide_eq_true a11, a12, of_decide_eq_true a13, of_decide_eq_true a14, of_decide_eq_true a15,
   He.free_ok X G s, He.free_ok X G s2, top, ⟨oc, od, doc, pm, an, cda, ct, cc, osl, ho, hcd, hcode, hcell⟩, shape⟩,
   ⟨⟨of_decide_eq_true a3, of_decide_eq_true a4, of_decide_eq_true a9, a12⟩, ⟨a16, of_decide_eq_true a3, of_decide_eq_true a4, of_decide_eq_true a9, of_decide_eq_true a17, of_decide_eq_true a18, of_decide_eq_true a19, of_decide_eq_true a20⟩, of_decide_eq_true a5, of_decide_eq_true a11⟩⟩
end G
namespace L2
open PySem PySem.Spec PyProof.Rows
section
variable {X : Cx} {CX : CXT} {k : Nat} {f : Addr} {fd : FuncData} {ps : List Str} {sp : Sp} {dvs : List V} {ds : List Value} {E : St → XK}
def tCallSD (sp : Sp) (dvs : List V) (E : St → XK) (t : TA) : TE := fun σ H Q => t σ H fun vs H1 => sp (vs ++ dvs) H1 Q (E σ)
theorem run_fnSD {pins : List (Addr × Obj)} {σ : St} {H : Hp} {s : Shared} {Q : VK} {us : List Value} {vs : List V} (F : FnOk X.prog X.w X.K X.mg X.base CX k f fd ps sp) (hr : Room k X.A) (hb : Binds X.K fd ps ds) (hd : Vals dvs ds) (hx : PassesAt CX X σ (E σ)) (I : Inv X pins σ H s) (r : Vals vs us) (h : sp (vs ++ dvs) H Q (E σ)) :
   wpAny (model X.prog X.w) X.A (call (.ref f) us) (EP X pins σ Q) X.xe s := by
 have r2 := Vals.append r hd
 have hl : (us ++ ds).length = ps.length := by rw [← Vals.length r2]; exact F.len (vs ++ dvs) H Q (E σ) h
 refine wpAny_call (codeAny_mono (F.run X.A X.stack s H ⟨us, []⟩ (us ++ ds) (vs ++ dvs) Q (E σ) hr I.env0 (hb s us I.kIn hl) r2 h) fun r s' hq => ?_)
 cases r with
 | error e => exact hx pins H s e s' I hq
 | ok fl =>
   cases fl with
   | next => exact False.elim hq
   | brk => exact False.elim hq
   | cont => exact False.elim hq
   | ret u => exact I.after hq
theorem pe_callSD {x : Str} {p pos : Pos} {e : Expr} {es : List Expr} {t : TA} (F : FnOk X.prog X.w X.K X.mg X.base CX k f fd ps sp) (hr : Room k X.A) (hg : Gl X x) (hm : X.mg x = some (.ref f)) (hk : PySem.W.keepIn X.K (.ref f) = true) (hb : Binds X.K fd ps ds) (hd : Vals dvs ds)
   (hx : ∀ σ, PassesAt CX X σ (E σ)) (ha : PA X (e :: es) t) (hdb : (x == ("__debug__" : Str)) = false := by decide) (he : starEach (e :: es) X.env = (false, eval e X.env) :: starEach es X.env := by rfl) (hpl : (backTo pos (starEach es X.env)).any (·.1) = false := by rfl) :
   PE X (.Call (.Name x p) (e :: es) [] pos) (tCallSD sp dvs E t) :=
 ⟨fun pins s σ H Q I h => wpAny_Call_Name_kw (ld_glob I hg hm (PySem.W.callWith_K I.ok.mod.kin hk (thn (ha.run pos pins s σ H (fun vs H1 => sp (vs ++ dvs) H1 Q (E σ)) I h) fun us s1 hh => by
   obtain ⟨vs, H1, I1, r, q⟩ := hh
   exact ⟨I1.kIn, run_fnSD F hr hb hd (hx σ) I1 r q⟩) he hpl) hdb)⟩
end
end L2
namespace G
open PySem PySem.Spec PyProof.Rows L2
structure CalDN (P : Program) (w : World) (K : PySem.W.Frag) (mg : Str → Option Value) (x : Str) (st : Stmt) (dvs : List V) (ps : List Str) (k : Nat) (sp : Sp) : Prop where
 ex : ∃ f fd, mg x = some (.ref f) ∧ FunD K x x (defArgs st) (defBody st) (defScope st) dvs [] f fd ∧ ∀ base : Heap, FnOk P w K mg base (L2N.CX P w) k f fd ps sp
theorem w_callSD {σ : L2.St} {H : Hp} {Q : VK} {sp : Sp} {dvs : List V} {E : L2.St → XK} {t : TA} (h : t σ H fun vs H1 => sp (vs ++ dvs) H1 Q (E σ)) : tCallSD sp dvs E t σ H Q := h
end G
namespace G
open PySem PySem.Spec PyProof.Rows L2
section
variable {X : Cx} {K : PySem.W.Frag} {σ : L2.St} {H : Hp} {F : List Addr} {v : V} {Q : VK} {m : Int} {α : Type} {τ : Ty α}
theorem w_maxF {xs : List Int} (r : (yFl yInt).rep K H F v xs) (h : Mi.lMax xs = some m) (k : Q (.int m) H) : rMax K [v] H Q := by
 obtain ⟨p, rfl, s⟩ := ints_sqF r
 obtain ⟨h1, h2, h3⟩ := Mi.lMax_spec h
 exact ⟨p, xs, rfl, s, h1, fun z hz ha => by rw [show z = m from Int.le_antisymm (h3 z hz) (ha m h2)]; exact k⟩
theorem optlst_nd {d : Option (List α)} (r : (yOpt (yLst τ)).rep K H F v d) : F.Nodup := by
 cases d with
 | none => obtain ⟨rfl, _⟩ := r; exact List.nodup_nil
 | some xs => exact lst_nd r.2
end
end G
namespace G
open PySem PySem.Spec PyProof.Rows L2
theorem g_frzL {K : PySem.W.Frag} {H : Hp} {F : List Addr} {v : V} {α : Type} {τ : Ty α} {P : Hp → Prop} {xs : List α} (r : (yLst τ).rep K H F v xs) (k : ∀ H', Chg F H H' → (yFl τ).rep K H' [] v xs → P H') : ∃ as, GFz P as H := by
 obtain ⟨a, vs, e, f, g, q⟩ := r
 subst f
 have c : ∀ o, Chg [a] H (upd H a (.frz o (.lst vs))) := fun o => Chg.wr g (fun z => z)
 exact ⟨[a], vs, g, fun o => k _ (c o) ⟨rfl, a, vs, o, e, upd_same, Paired.mapP q fun u x z => Ty.fz z (c o)⟩⟩
end G
namespace G
open PySem PySem.Spec PyProof.Rows L2
theorem pe_cc0 {X : Cx} {x : Str} {ps : List Str} {j k : Nat} {sp : Sp} {p pos : Pos} (C : Cal X.prog X.w X.K X.mg x ps j sp) (hr : Room k X.A) (hj : j ≤ k := by decide) (hg : Gl X x := by rfl) (hd : (x == ("__debug__" : Str)) = false := by decide) : PE X (.Call (.Name x p) [] [] pos) (tCall sp [] E0 tNil) := by
 obtain ⟨f, fd, g, kp, b, F⟩ := C.ex
 exact pe_call0 (F X.base) (hr.mono hj) hg g kp (fun s us _ hl => by rw [List.append_nil] at hl ⊢; exact b s us hl) .nil pass0 hd
end G
namespace G
open PySem PySem.Spec PyProof.Rows L2
def topS (i : Nat) : Stmt := PySem.Challenge.pw_fogfleet_k63_whole_least_schedule.main.body.getD i (.Pass ⟨0, 0, 0, 0⟩)
structure Cs (K : PySem.W.Frag) (mg : Str → Option Value) : Prop where
 n_iter : mg "iter" = none
 t_LONE_WORDS : tupAt K (He.ga K "LONE_WORDS") (([([98, 121] : List Nat), ([102, 114, 111, 109] : List Nat), ([103, 97, 116, 101] : List Nat), ([98, 97, 114] : List Nat)] : List (List Nat)).map fun s => He.Dv.str (toS s)) = true
 g_LONE_WORDS : mg "LONE_WORDS" = some (.ref (He.ga K "LONE_WORDS"))
 t_PAIR_WORDS : tupAt K (He.ga K "PAIR_WORDS") (([([97, 102, 116, 101, 114] : List Nat), ([119, 105, 116, 104] : List Nat), ([108, 97, 110, 100, 115] : List Nat)] : List (List Nat)).map fun s => He.Dv.str (toS s)) = true
 g_PAIR_WORDS : mg "PAIR_WORDS" = some (.ref (He.ga K "PAIR_WORDS"))
 np_InvalidOrder : PySem.W.findIn K (.ref (He.ga K "InvalidOrder")) "index" = some none
 g_InvalidOrder : mg "InvalidOrder" = some (.ref (He.ga K "InvalidOrder"))
 em_InvalidOrder_InvalidOrder : PySem.W.exmOne K (.ref (He.ga K "InvalidOrder")) (.ref (He.ga K "InvalidOrder")) = some true
 x_InvalidOrder : ErrK K (He.ga K "InvalidOrder")
 g_FleetError : mg "FleetError" = some (.ref (He.ga K "FleetError"))
 em_InvalidOrder_FleetError : PySem.W.exmOne K (.ref (He.ga K "InvalidOrder")) (.ref (He.ga K "FleetError")) = some true
 ko_InvalidOrder_InvalidOrder : PySem.W.kitOne K (.ref (He.ga K "InvalidOrder")) (.ref (He.ga K "InvalidOrder")) = some true
 ko_InvalidOrder_ValueError : PySem.W.kitOne K (.ref (He.ga K "InvalidOrder")) (.type "ValueError") = some true
 n_ValueError : mg "ValueError" = none
 kt_InvalidOrder_InvalidChart_6 : PySem.W.kitAny K (.ref (He.ga K "InvalidOrder")) [(.ref (He.ga K "InvalidChart")), (.ref (He.ga K "InvalidShip")), (.ref (He.ga K "InvalidLight")), (.ref (He.ga K "InvalidReport")), (.ref (He.ga K "InvalidLetter")), (.ref (He.ga K "InvalidSetting"))] = some false
 g_InvalidSetting : mg "InvalidSetting" = some (.ref (He.ga K "InvalidSetting"))
 g_InvalidLetter : mg "InvalidLetter" = some (.ref (He.ga K "InvalidLetter"))
 g_InvalidReport : mg "InvalidReport" = some (.ref (He.ga K "InvalidReport"))
 g_InvalidLight : mg "InvalidLight" = some (.ref (He.ga K "InvalidLight"))
 g_InvalidShip : mg "InvalidShip" = some (.ref (He.ga K "InvalidShip"))
 g_InvalidChart : mg "InvalidChart" = some (.ref (He.ga K "InvalidChart"))
 kt_InvalidOrder_InvalidReceipt_7 : PySem.W.kitAny K (.ref (He.ga K "InvalidOrder")) [(.ref (He.ga K "InvalidReceipt")), (.ref (He.ga K "NotInPlay")), (.ref (He.ga K "NoDriving")), (.ref (He.ga K "NoSuchNumber")), (.ref (He.ga K "DoesNotFit")), (.ref (He.ga K "NoRun")), (.ref (He.ga K "NoWorld"))] = some false
 g_NoWorld : mg "NoWorld" = some (.ref (He.ga K "NoWorld"))
 g_NoRun : mg "NoRun" = some (.ref (He.ga K "NoRun"))
 g_DoesNotFit : mg "DoesNotFit" = some (.ref (He.ga K "DoesNotFit"))
 g_NoSuchNumber : mg "NoSuchNumber" = some (.ref (He.ga K "NoSuchNumber"))
 g_NoDriving : mg "NoDriving" = some (.ref (He.ga K "NoDriving"))
 g_NotInPlay : mg "NotInPlay" = some (.ref (He.ga K "NotInPlay"))
 g_InvalidReceipt : mg "InvalidReceipt" = some (.ref (He.ga K "InvalidReceipt"))
 kt_InvalidOrder_NoWay_6 : PySem.W.kitAny K (.ref (He.ga K "InvalidOrder")) [(.ref (He.ga K "NoWay")), (.ref (He.ga K "InvalidStay")), (.ref (He.ga K "BadText")), (.ref (He.ga K "BadClaim")), (.ref (He.ga K "Contradiction")), (.ref (He.ga K "UnknownEntry"))] = some false
 g_UnknownEntry : mg "UnknownEntry" = some (.ref (He.ga K "UnknownEntry"))
 g_Contradiction : mg "Contradiction" = some (.ref (He.ga K "Contradiction"))
 g_BadClaim : mg "BadClaim" = some (.ref (He.ga K "BadClaim"))
 g_BadText : mg "BadText" = some (.ref (He.ga K "BadText"))
 g_InvalidStay : mg "InvalidStay" = some (.ref (He.ga K "InvalidStay"))
 g_NoWay : mg "NoWay" = some (.ref (He.ga K "NoWay"))
 kt_InvalidOrder_NothingToUndo_2 : PySem.W.kitAny K (.ref (He.ga K "InvalidOrder")) [(.ref (He.ga K "NothingToUndo")), (.ref (He.ga K "NothingToRedo"))] = some false
 g_NothingToRedo : mg "NothingToRedo" = some (.ref (He.ga K "NothingToRedo"))
 g_NothingToUndo : mg "NothingToUndo" = some (.ref (He.ga K "NothingToUndo"))
abbrev nm_Gate : List Str := ["hours"]
abbrev ty_Gate : Tys ((List Int)) := (sOne (yTupL yInt))
abbrev kw_Gate (K : PySem.W.Frag) : List (Str × V) := []
section
variable {P : Program} {w : World} {K : PySem.W.Frag} {mg : Str → Option Value}
abbrev s_Gate_init : Stmt := inClass (topS 37) 0
theorem sc_Gate_init : FnScope ["self", "hours"] ["self", "hours"] (defScope s_Gate_init) := ⟨rfl, rfl, rfl, by decide +kernel, rfl, by decide +kernel, by decide +kernel⟩
def sp_Gate_init (K : PySem.W.Frag) (C_Gate : Addr) : Sp := fun vs H Q _ => ∃ (x0 dx0 : Addr) (v1 : V) (F1 : List Addr) (d1 : (List Int)) (r : ((List Int))), vs = [.ref x0, v1] ∧ (yPart C_Gate dx0 []).rep K H [x0] (.ref x0) [] ∧ (yLst yInt).rep K H F1 v1 d1 ∧ Dj [x0] F1 ∧ Mi.m_Gate_init d1 = some r ∧ ∀ H', Chg [x0] H H' → (yObj C_Gate nm_Gate ty_Gate).rep K H' [] (.ref x0) r → Q .non H'
theorem ok_Gate_init (B : Bi mg) (CN : Cs K mg) {C_Gate : Addr} (T_Gate : Tx K mg C_Gate "Gate" nm_Gate) (D : DfnI K C_Gate "Gate.__init__" s_Gate_init (kw_Gate K) ) : CalI P w K mg C_Gate "Gate.__init__" s_Gate_init (kw_Gate K) ["self", "hours"] 1 (sp_Gate_init K C_Gate) := by
 obtain ⟨f, fd, F, g⟩ := D.ex
 refine ⟨f, fd, g, F, fun base => okD F sc_Gate_init (fun vs H Q E h => ?_) (fun cdv A outer s H0 vs Q E hr h => ?_)⟩
 · obtain ⟨x0, dx0, v1, F1, d1, r, rfl, rs, r1, dd0_1, hm, hQ⟩ := h; rfl
 ·
   obtain ⟨x0, dx0, v1, F1, d1, r, rfl, rs, r1, dd0_1, hm, hQ⟩ := h
   refine ⟨_, pss_cons (ps_fld (pv 0) (pe_callTy (cl_tuple (K := K)) (by rfl) B.tuple (by decide +kernel) (pa_cons (pe_callB (cl_sortedL (K := K)) (by rfl) B.sorted (by decide +kernel) (pa_cons (pv 1) pa_nil)) pa_nil)) rfl)
     (pss_nil), ?_⟩
   have c0 : Chg ([x0]) H0 H0 := Chg.refl H0
   unfold Mi.m_Gate_init at hm
   refine q_fld ?_
   refine w_cb ?_
   refine w_cons ?_
   refine w_cb ?_
   refine w_args (va_cons (val_var rfl) va_nil) ?_
   refine w_sortedL r1 fun p3 H7 np6 c4 r5 => ?_
   have d8 : Dj [x0] [p3] := Ty.nin rs np6
   have d9 : Dj F1 [p3] := Ty.nin r1 np6
   have n10 : ∀ a ∈ [p3], H0 a = none := one_fresh (c0.dom p3 np6)
   have rs := Ty.ex rs c4
   have r1 := Ty.ex r1 c4
   have c0 := c0.trans c4.none
   refine w_nil ?_
   refine w_tupleL r5 fun v11 H12 c13 r14 => ?_
   have rs := Ty.ex rs c13
   have r1 := Ty.ex r1 c13
   have r5 := Ty.ex r5 c13
   have c0 := c0.trans c13.none
   refine c_val (val_var rfl) ?_
   refine m_fldE (ts := ty_Gate) (d := (Mi.sortI d1)) rs T_Gate.cls (T_Gate.na "hours" (by decide +kernel)) (by decide +kernel) rfl (by decide) rfl ⟨_, rfl, r14⟩ fun H16 c15 rs => ?_
   have r1 := Ty.chg r1 c15 dd0_1.symm
   have r14 := Ty.fz r14 c15
   have c0 := c0.join c15 (fun a h => .inl (h))
   refine w_next ?_
   obtain rfl := Option.some.inj hm
   exact hQ _ c0 rs
abbrev s_Gate_contains : Stmt := inClass (topS 37) 1
theorem sc_Gate_contains : FnScope ["self", "hour"] ["self", "hour"] (defScope s_Gate_contains) := ⟨rfl, rfl, rfl, by decide +kernel, rfl, by decide +kernel, by decide +kernel⟩
def sp_Gate_contains (K : PySem.W.Frag) (C_Gate : Addr) : Sp := fun vs H Q _ => ∃ (v0 : V) (d0 : ((List Int))) (d1 : Int) (r : Bool), vs = [v0, (.int d1)] ∧ (yObj C_Gate nm_Gate ty_Gate).rep K H [] v0 d0 ∧ Mi.m_Gate_contains d0 d1 = some r ∧ ∀ H', Chg ([]) H H' → Q (.bl r) H'
theorem ok_Gate_contains (B : Bi mg) (CN : Cs K mg) {C_Gate : Addr} (T_Gate : Tx K mg C_Gate "Gate" nm_Gate) (D : DfnM K C_Gate "__contains__" "Gate.__contains__" s_Gate_contains) : CalM P w K mg C_Gate "__contains__" ["self", "hour"] 1 (sp_Gate_contains K C_Gate) := by
 obtain ⟨f, fd, F, g⟩ := D.ex
 refine ⟨f, fd, g, bindsF F (fun _ _ _ _ _ _ us hl => match us, hl with | [_, _], _ => rfl), fun base => F.ok sc_Gate_contains (fun vs H Q E h => ?_) (fun cdv A outer s H0 vs Q E hr h => ?_)⟩
 · obtain ⟨v0, d0, d1, r, rfl, r0, hm, hQ⟩ := h; rfl
 ·
   obtain ⟨v0, d0, d1, r, rfl, r0, hm, hQ⟩ := h
   refine ⟨_, pss_cons (ps_ret (pe_cmpR (op_in_q (K := K)) (pv 1) (pe_fldk (K := K) (pv 0) (by rfl)) (by rfl))) pss_nil, ?_⟩
   have c0 : Chg ([] : List Addr) H0 H0 := Chg.refl H0
   unfold Mi.m_Gate_contains at hm
   refine q_ret ?_
   obtain ⟨u3, r4, kx5, ku6⟩ := fld_obj (n := 0) (f := "hours") at1 (by decide +kernel) rfl T_Gate.cls (T_Gate.na "hours" (by decide +kernel)) r0
   refine c_val (val_inT r4 (val_var rfl) (ku6 (val_var rfl))) ?_
   obtain rfl := Option.some.inj hm
   exact hQ _ c0 
abbrev s_Gate_iter : Stmt := inClass (topS 37) 2
theorem sc_Gate_iter : FnScope ["self"] ["self"] (defScope s_Gate_iter) := ⟨rfl, rfl, rfl, by decide +kernel, rfl, by decide +kernel, by decide +kernel⟩
theorem ok_Gate_iter (B : Bi mg) (CN : Cs K mg) {C_Gate : Addr} (T_Gate : Tx K mg C_Gate "Gate" nm_Gate) (D : DfnM K C_Gate "__iter__" "Gate.__iter__" s_Gate_iter) : CalIt P w K mg C_Gate "hours" 1 := by
 obtain ⟨f, fd, F, g⟩ := D.ex
 refine ⟨f, fd, g, bindsF (ps := ["self"]) F (fun _ _ _ _ _ _ us hl => match us, hl with | [_], _ => rfl), fun base => okS F sc_Gate_iter (fun n vs H Q E h => ?_) (fun cdv A outer s H0 vs Q E hr h => ?_)⟩
 · obtain ⟨a, dx, fs, t, zs, rfl, _⟩ := h; rfl
 · obtain ⟨a, dx, fs, t, zs, rfl, ha, hf, hq, hQ⟩ := h
   refine ⟨_, pss_cons (ps_ret (pe_callB (call_iterT (K := K)) (by rfl) CN.n_iter PyProof.Rows.boot_iter (pa_cons (pe_fldk (K := K) (pv 0) (by rfl)) pa_nil))) pss_nil, ?_⟩
   refine q_ret (w_cb (w_args (va_cons (fun Q q => val_var rfl _ ⟨a, C_Gate, dx, fs, .ref t, rfl, ha, T_Gate.cls, T_Gate.na "hours" (by decide +kernel), hf, q⟩) va_nil) ⟨t, zs, rfl, hq, fun it hn hle => hQ it hn hle⟩))
abbrev s_is_order : Stmt := topS 31
theorem sc_is_order : FnScope ["sailings", "order", "count"] ["sailings", "order"] (defScope s_is_order) := ⟨rfl, rfl, rfl, by decide +kernel, rfl, by decide +kernel, by decide +kernel⟩
def sp_is_order (K : PySem.W.Frag) (C_Gate : Addr) : Sp := fun vs H Q _ => ∃ (v0 : V) (F0 : List Addr) (d0 : (List (Int × Int))) (v1 : V) (d1 : (List (Int ⊕ (List Nat) ⊕ ((List Int))))) (r : Bool), vs = [v0, v1] ∧ (yLst (yTup (sCons yInt (sOne yInt)))).rep K H F0 v0 d0 ∧ (yTupL (ySum yInt (ySum yStr (yObj C_Gate nm_Gate ty_Gate)))).rep K H [] v1 d1 ∧ Mi.m_is_order d0 d1 = some r ∧ ∀ H', Chg ([]) H H' → Q (.bl r) H'
theorem ok_is_order (B : Bi mg) (CN : Cs K mg) (D : Dfn K mg "is_order" s_is_order) {C_Gate : Addr} (T_Gate : Tx K mg C_Gate "Gate" nm_Gate) : Cal P w K mg "is_order" ["sailings", "order"] 1 (sp_is_order K C_Gate) := by
 obtain ⟨f, fd, F, g⟩ := D.ex
 refine ⟨f, fd, g, F.kp, bindsF F (fun _ _ _ _ _ _ us hl => match us, hl with | [_, _], _ => rfl), fun base => F.ok sc_is_order (fun vs H Q E h => ?_) (fun cdv A outer s H0 vs Q E hr h => ?_)⟩
 · obtain ⟨v0, F0, d0, v1, d1, r, rfl, r0, r1, hm, hQ⟩ := h; rfl
 ·
   obtain ⟨v0, F0, d0, v1, d1, r, rfl, r0, r1, hm, hQ⟩ := h
   refine ⟨_, pss_cons (ps_set (i := 2) sc_is_order.nd rfl (.inl rfl) (pe_callB (cl_len (K := K)) (by rfl) B.len PySem.boot_len (pa_cons (pv 0) pa_nil)))
     (pss_cons (ps_if (pt_cmpR (op_in_q (K := K)) (pe_ix (ix_t (K := K)) (pv 1) pe_int (fun _ _ => rfl)) (pe_glob (v := .ref (He.ga K "LONE_WORDS")) (by rfl) CN.g_LONE_WORDS rfl) (by rfl)) (pss_cons (ps_ret (pe_chain op_le op_lt pe_int (pe_ix (ix_t (K := K)) (pv 1) pe_int (fun _ _ => rfl)) (pv 2))) pss_nil) (pss_nil))
     (pss_cons (ps_if (pt_cmpR (op_in_q (K := K)) (pe_ix (ix_t (K := K)) (pv 1) pe_int (fun _ _ => rfl)) (pe_glob (v := .ref (He.ga K "PAIR_WORDS")) (by rfl) CN.g_PAIR_WORDS rfl) (by rfl)) (pss_cons (ps_ret (pe_and (pe_chain op_le op_lt pe_int (pe_ix (ix_t (K := K)) (pv 1) pe_int (fun _ _ => rfl)) (pv 2)) (pe_and (pe_chain op_le op_lt pe_int (pe_ix (ix_t (K := K)) (pv 1) pe_int (fun _ _ => rfl)) (pv 2)) (pe_one (pe_cmpR op_ne (pe_ix (ix_t (K := K)) (pv 1) pe_int (fun _ _ => rfl)) (pe_ix (ix_t (K := K)) (pv 1) pe_int (fun _ _ => rfl)) (nomark _)))))) pss_nil) (pss_nil))
     (pss_cons (ps_ret pe_bl) pss_nil))), ?_⟩
   have c0 : Chg ([] : List Addr) H0 H0 := Chg.refl H0
   unfold Mi.m_is_order at hm
   obtain ⟨count3, hcount3, hm⟩ := Mi.letE hm
   refine q_setE (val_lenL r0 (val_var rfl)) (congrArg V.int hcount3) (σ' := [some v0, some v1, some (.int count3)]) rfl ?_
   obtain ⟨x4, hx4, hm⟩ := Mi.bnd hm
   obtain ⟨u5, r6, ku7⟩ := itm_T r1 hx4
   obtain ⟨x8, hx8, hm⟩ := Mi.bnd hm
   have r9 := sum_R r6 hx8
   obtain ⟨x10, hx10, hm⟩ := Mi.bnd hm
   have r11 := sum_L r9 hx10
   obtain ⟨_, rfl⟩ := r11
   refine q_if (ans_t (val_inTS (tupAt_strs CN.t_LONE_WORDS _) (ku7 (val_var rfl) val_c) val_c)) (fun hb => ?_) (fun hb => ?_)
   ·
     replace hm := Mi.ifT hb hm
     refine q_ret ?_
     obtain ⟨x12, hx12, hm⟩ := Mi.bnd hm
     obtain ⟨u13, r14, ku15⟩ := itm_T r1 hx12
     obtain ⟨x16, hx16, hm⟩ := Mi.bnd hm
     have r17 := sum_L r14 hx16
     obtain ⟨_, rfl⟩ := r17
     refine c_val (val_chainI val_c (ku15 (val_var rfl) val_c) (val_var rfl)) ?_
     obtain rfl := Option.some.inj hm
     exact hQ _ c0 
   replace hm := Mi.ifF hb hm
   refine w_fall ?_
   obtain ⟨x18, hx18, hm⟩ := Mi.bnd hm
   obtain ⟨u19, r20, ku21⟩ := itm_T r1 hx18
   obtain ⟨x22, hx22, hm⟩ := Mi.bnd hm
   have r23 := sum_R r20 hx22
   obtain ⟨x24, hx24, hm⟩ := Mi.bnd hm
   have r25 := sum_L r23 hx24
   obtain ⟨_, rfl⟩ := r25
   refine q_if (ans_t (val_inTS (tupAt_strs CN.t_PAIR_WORDS _) (ku21 (val_var rfl) val_c) val_c)) (fun hb => ?_) (fun hb => ?_)
   ·
     replace hm := Mi.ifT hb hm
     refine q_ret ?_
     obtain ⟨x26, hx26, hm⟩ := Mi.bnd hm
     obtain ⟨u27, r28, ku29⟩ := itm_T r1 hx26
     obtain ⟨x30, hx30, hm⟩ := Mi.bnd hm
     have r31 := sum_L r28 hx30
     obtain ⟨_, rfl⟩ := r31
     obtain ⟨b53, hb53, hm⟩ := Mi.bnd hm
     refine c_val (val_andVO (val_chainI val_c (ku29 (val_var rfl) val_c) (val_var rfl)) hb53 (fun hs32 => by (obtain ⟨x33, hx33, hs32⟩ := Mi.bnd hs32; obtain ⟨u34, r35, ku36⟩ := itm_T r1 hx33; obtain ⟨x37, hx37, hs32⟩ := Mi.bnd hs32; have r38 := sum_L r35 hx37; obtain ⟨_, rfl⟩ := r38; obtain ⟨b52, hb52, hs32⟩ := Mi.bnd hs32; cases hs32; exact (val_andVO (val_chainI val_c (ku36 (val_var rfl) val_c) (val_var rfl)) hb52 (fun hs39 => by (obtain ⟨x40, hx40, hs39⟩ := Mi.bnd hs39; obtain ⟨u41, r42, ku43⟩ := itm_T r1 hx40; obtain ⟨x44, hx44, hs39⟩ := Mi.bnd hs39; have r45 := sum_L r42 hx44; obtain ⟨_, rfl⟩ := r45; obtain ⟨x46, hx46, hs39⟩ := Mi.bnd hs39; obtain ⟨u47, r48, ku49⟩ := itm_T r1 hx46; obtain ⟨x50, hx50, hs39⟩ := Mi.bnd hs39; have r51 := sum_L r48 hx50; obtain ⟨_, rfl⟩ := r51; cases hs39; exact (val_neI (ku43 (val_var rfl) val_c) (ku49 (val_var rfl) val_c)))))))) ?_
     obtain rfl := Option.some.inj hm
     exact hQ _ c0 
   replace hm := Mi.ifF hb hm
   refine w_fall ?_
   refine q_ret ?_
   refine c_val val_c ?_
   obtain rfl := Option.some.inj hm
   exact hQ _ c0 
abbrev s_check_orders : Stmt := topS 32
theorem sc_check_orders : FnScope ["sailings", "orders", "index", "order"] ["sailings", "orders"] (defScope s_check_orders) := ⟨rfl, rfl, rfl, by decide +kernel, rfl, by decide +kernel, by decide +kernel⟩
def sp_check_orders (K : PySem.W.Frag) (C_Gate : Addr) : Sp := fun vs H Q _ => ∃ (v0 : V) (F0 : List Addr) (d0 : (List (Int × Int))) (v1 : V) (F1 : List Addr) (d1 : (List (List (Int ⊕ (List Nat) ⊕ ((List Int)))))) (r : Unit), vs = [v0, v1] ∧ (yLst (yTup (sCons yInt (sOne yInt)))).rep K H F0 v0 d0 ∧ (yLst (yTupL (ySum yInt (ySum yStr (yObj C_Gate nm_Gate ty_Gate))))).rep K H F1 v1 d1 ∧ Mi.m_check_orders d0 d1 = some r ∧ ∀ H', Chg ([]) H H' → Q .non H'
theorem ok_check_orders (B : Bi mg) (CN : Cs K mg) (D : Dfn K mg "check_orders" s_check_orders) {C_Gate : Addr} (T_Gate : Tx K mg C_Gate "Gate" nm_Gate) (C_is_order : Cal P w K mg "is_order" ["sailings", "order"] 1 (sp_is_order K C_Gate)) : Cal P w K mg "check_orders" ["sailings", "orders"] 2 (sp_check_orders K C_Gate) := by
 obtain ⟨f, fd, F, g⟩ := D.ex
 refine ⟨f, fd, g, F.kp, bindsF F (fun _ _ _ _ _ _ us hl => match us, hl with | [_, _], _ => rfl), fun base => F.ok sc_check_orders (fun vs H Q E h => ?_) (fun cdv A outer s H0 vs Q E hr h => ?_)⟩
 · obtain ⟨v0, F0, d0, v1, F1, d1, r, rfl, r0, r1, hm, hQ⟩ := h; rfl
 ·
   obtain ⟨v0, F0, d0, v1, F1, d1, r, rfl, r0, r1, hm, hQ⟩ := h
   refine ⟨_, pss_cons (ps_for PassesOwn.never rfl (pi_enum (by rfl) B.enumerate (pa_cons (pv 1) pa_nil)) (pg_tupk (K := K) (n := 2) rfl (pgs_cons (pg_name (i := 2) sc_check_orders.nd rfl (.inl rfl)) (pgs_cons (pg_name (i := 3) sc_check_orders.nd rfl (.inl rfl)) pgs_nil))) (pss_cons (ps_if (pt_not (pt_val (pe_cc C_is_order hr (pa_cons (pv 0) (pa_cons (pv 3) pa_nil))))) (pss_cons ps_never pss_nil) (pss_nil))
     (pss_nil)))
     (pss_nil), ?_⟩
   have c0 : Chg ([] : List Addr) H0 H0 := Chg.refl H0
   unfold Mi.m_check_orders at hm
   refine q_for ?_
   refine w_iEnum ?_
   refine w_args (va_cons (val_var rfl) va_nil) ?_
   obtain ⟨e3, he3, hm⟩ := Mi.bnd hm
   refine l_enum r1 (fun i σ' H' => ∃ (s4 : Unit) (y5 : Option V) (y6 : Option V), σ' = [some v0, some v1, y5, y6] ∧ Chg ([] : List Addr) H0 H' ∧ (yLst (yTup (sCons yInt (sOne yInt)))).rep K H' F0 v0 d0 ∧ (yLst (yTupL (ySum yInt (ySum yStr (yObj C_Gate nm_Gate ty_Gate))))).rep K H' F1 v1 d1 ∧ Mi.forN (Mi.m_check_orders_b1 d0) s4 (List.drop i (Mi.enumF 0 d1)) = some e3) ⟨(), none, none, rfl, c0, r0, r1, he3⟩ (fun i σ' H' hp => by obtain ⟨s4, y5, y6, rfl, c0, r0, r1, _⟩ := hp; exact r1) (fun i9 x8 u10 σ' H' H13 hx7 c12 r11 hp => ?_) (fun σ' H' hp => ?_)
   ·
     obtain ⟨s4, y5, y6, rfl, c0, r0, r1, hle3⟩ := hp
     obtain ⟨_, hbe3, hle3⟩ := Mi.forN_go hle3 hx7
     unfold Mi.m_check_orders_b1 at hbe3
     have r0 := Ty.ex r0 c12
     have r1 := Ty.ex r1 c12
     have c0 := c0.trans c12.none
     refine st_eq (σ' := [some v0, some v1, some (.int x8.1), some u10]) rfl ?_
     refine q_ifS ?_
     refine w_not ?_
     refine w_B ?_
     refine w_call ?_
     refine w_args (va_cons (val_var rfl) (va_cons (val_var rfl) va_nil)) ?_
     obtain ⟨q14, hq14, hbe3⟩ := Mi.bnd hbe3
     refine ⟨v0, F0, d0, u10, x8.2, q14, rfl, r0, r11, hq14, fun H16 c15  => ?_⟩
     have r0 := Ty.ex r0 c15
     have r1 := Ty.ex r1 c15
     have r11 := Ty.fz r11 c15
     have c0 := c0.trans c15.none
     refine ⟨_, rfl, ?_⟩
     refine c_if (fun hb => ?_) (fun hb => ?_)
     ·
       replace hbe3 := Mi.ifT hb hbe3
       cases hbe3
     replace hbe3 := Mi.ifF hb hbe3
     refine w_fall ?_
     refine w_nextJ ?_
     obtain rfl := Option.some.inj hbe3
     exact ⟨_, (some (.int x8.1)), (some u10), rfl, c0, r0, r1, hle3⟩
   obtain ⟨s4, y5, y6, rfl, c0, r0, r1, hle3⟩ := hp
   obtain rfl := Mi.forN_end hle3
   refine w_next ?_
   obtain rfl := Option.some.inj hm
   exact hQ _ c0 
abbrev s_check_orders_x : Stmt := topS 32
theorem sc_check_orders_x : FnScope ["sailings", "orders", "index", "order"] ["sailings", "orders"] (defScope s_check_orders_x) := ⟨rfl, rfl, rfl, by decide +kernel, rfl, by decide +kernel, by decide +kernel⟩
def sp_check_orders_x (K : PySem.W.Frag) (C_Gate : Addr) : Sp := fun vs H Q E => ∃ (v0 : V) (F0 : List Addr) (d0 : (List (Int × Int))) (v1 : V) (F1 : List Addr) (d1 : (List (List (Int ⊕ (List Nat) ⊕ ((List Int)))))) (r : (Int ⊕ Unit)), vs = [v0, v1] ∧ (yLst (yTup (sCons yInt (sOne yInt)))).rep K H F0 v0 d0 ∧ (yLst (yTupL (ySum yInt (ySum yStr (yObj C_Gate nm_Gate ty_Gate))))).rep K H F1 v1 d1 ∧ Mi.m_check_orders_x d0 d1 = some r ∧ (∀ y, r = .inl y → ∀ d H', Chg ([]) H H' → H' d = none → E (.ref (He.ga K "InvalidOrder")) (some d) (upd H' d (.xd [(("index" : Str), (.int y))]))) ∧ ∀ ra, r = .inr ra → ∀ H', Chg ([]) H H' → Q .non H'
theorem ok_check_orders_x (B : Bi mg) (CN : Cs K mg) (D : Dfn K mg "check_orders" s_check_orders_x) {C_Gate : Addr} (T_Gate : Tx K mg C_Gate "Gate" nm_Gate) (T_InvalidOrder : PySem.ErrI_index.ErrTxt P K mg "InvalidOrder" "InvalidOrder.__init__" (inClass (topS 18) 0) (He.ga K "InvalidOrder") (He.fAd K ("InvalidOrder", some "__init__"))) (C_is_order : Cal P w K mg "is_order" ["sailings", "order"] 1 (sp_is_order K C_Gate)) : CalXN P w K mg "check_orders" ["sailings", "orders"] 2 (sp_check_orders_x K C_Gate) := by
 obtain ⟨f, fd, F, g⟩ := D.ex
 refine ⟨f, fd, g, F.kp, bindsF F (fun _ _ _ _ _ _ us hl => match us, hl with | [_, _], _ => rfl), fun base => okXN F sc_check_orders_x (fun vs H Q E h => ?_) (fun cdv A outer s H0 vs Q E hr h => ?_)⟩
 · obtain ⟨v0, F0, d0, v1, F1, d1, r, rfl, r0, r1, hm, hE, hQ⟩ := h; rfl
 ·
   obtain ⟨v0, F0, d0, v1, F1, d1, r, rfl, r0, r1, hm, hE, hQ⟩ := h
   refine ⟨_, pss_cons (ps_for (passes_of rfl) rfl (pi_enum (by rfl) B.enumerate (pa_cons (pv 1) pa_nil)) (pg_tupk (K := K) (n := 2) rfl (pgs_cons (pg_name (i := 2) sc_check_orders_x.nd rfl (.inl rfl)) (pgs_cons (pg_name (i := 3) sc_check_orders_x.nd rfl (.inl rfl)) pgs_nil))) (pss_cons (ps_if (pt_not (pt_val (pe_cc C_is_order hr (pa_cons (pv 0) (pa_cons (pv 3) pa_nil))))) (pss_cons (L2N.ps_raise rfl (L2N.takes_of rfl rfl rfl rfl) (pmk_err_index T_InvalidOrder hr (pa_cons (pv 2) pa_nil))) pss_nil) (pss_nil))
     (pss_nil)))
     (pss_nil), ?_⟩
   have c0 : Chg ([] : List Addr) H0 H0 := Chg.refl H0
   unfold Mi.m_check_orders_x at hm
   refine q_for ?_
   refine w_iEnum ?_
   refine w_args (va_cons (val_var rfl) va_nil) ?_
   obtain ⟨e3, he3, hm⟩ := Mi.bnd hm
   refine l_enum r1 (fun i σ' H' => ∃ (s4 : Unit) (y5 : Option V) (y6 : Option V), σ' = [some v0, some v1, y5, y6] ∧ Chg ([] : List Addr) H0 H' ∧ (yLst (yTup (sCons yInt (sOne yInt)))).rep K H' F0 v0 d0 ∧ (yLst (yTupL (ySum yInt (ySum yStr (yObj C_Gate nm_Gate ty_Gate))))).rep K H' F1 v1 d1 ∧ Mi.forR (Mi.m_check_orders_x_b1 d0) s4 (List.drop i (Mi.enumF 0 d1)) = some e3) ⟨(), none, none, rfl, c0, r0, r1, he3⟩ (fun i σ' H' hp => by obtain ⟨s4, y5, y6, rfl, c0, r0, r1, _⟩ := hp; exact r1) (fun i9 x8 u10 σ' H' H13 hx7 c12 r11 hp => ?_) (fun σ' H' hp => ?_)
   ·
     obtain ⟨s4, y5, y6, rfl, c0, r0, r1, hle3⟩ := hp
     obtain ⟨o14, hbe3, hore3⟩ := Mi.forR_go hle3 hx7
     unfold Mi.m_check_orders_x_b1 at hbe3
     have r0 := Ty.ex r0 c12
     have r1 := Ty.ex r1 c12
     have c0 := c0.trans c12.none
     refine st_eq (σ' := [some v0, some v1, some (.int x8.1), some u10]) rfl ?_
     refine q_ifS ?_
     refine w_not ?_
     refine w_B ?_
     refine w_call ?_
     refine w_args (va_cons (val_var rfl) (va_cons (val_var rfl) va_nil)) ?_
     obtain ⟨q15, hq15, hbe3⟩ := Mi.bnd hbe3
     refine ⟨v0, F0, d0, u10, x8.2, q15, rfl, r0, r11, hq15, fun H17 c16  => ?_⟩
     have r0 := Ty.ex r0 c16
     have r1 := Ty.ex r1 c16
     have r11 := Ty.fz r11 c16
     have c0 := c0.trans c16.none
     refine ⟨_, rfl, ?_⟩
     refine c_if (fun hb => ?_) (fun hb => ?_)
     ·
       replace hbe3 := Mi.ifT hb hbe3
       obtain ⟨z18, hz18, hbe3⟩ := Mi.bnd hbe3
       obtain rfl := Option.some.inj hbe3
       obtain rfl := Mi.or_inl hore3
       obtain rfl := Option.some.inj (Mi.orR_inl hm)
       exact q_raise_index hz18 (val_var rfl) (fun d nd => hE _ rfl d _ c0 nd)
     replace hbe3 := Mi.ifF hb hbe3
     refine w_fall ?_
     refine w_nextJ ?_
     obtain rfl := Option.some.inj hbe3
     replace hore3 := Mi.or_inr hore3
     exact ⟨_, (some (.int x8.1)), (some u10), rfl, c0, r0, r1, hore3⟩
   obtain ⟨s4, y5, y6, rfl, c0, r0, r1, hle3⟩ := hp
   obtain rfl := Mi.forR_end hle3
   replace hm := Mi.orR_inr hm
   refine w_next ?_
   obtain rfl := Option.some.inj hm
   have hQ := hQ _ rfl
   exact hQ _ c0 
abbrev s_Gate_first_from : Stmt := inClass (topS 37) 3
theorem sc_Gate_first_from : FnScope ["self", "hour", "found"] ["self", "hour"] (defScope s_Gate_first_from) := ⟨rfl, rfl, rfl, by decide +kernel, rfl, by decide +kernel, by decide +kernel⟩
def sp_Gate_first_from (K : PySem.W.Frag) (C_Gate : Addr) : Sp := fun vs H Q _ => ∃ (v0 : V) (d0 : ((List Int))) (d1 : Int) (r : (Option Int)), vs = [v0, (.int d1)] ∧ (yObj C_Gate nm_Gate ty_Gate).rep K H [] v0 d0 ∧ Mi.m_Gate_first_from d0 d1 = some r ∧ ∀ v H', Chg ([]) H H' → (yOpt yInt).rep K H' [] v r → Q v H'
theorem ok_Gate_first_from (B : Bi mg) (CN : Cs K mg) {C_Gate : Addr} (T_Gate : Tx K mg C_Gate "Gate" nm_Gate) (D : DfnM K C_Gate "first_from" "Gate.first_from" s_Gate_first_from) : CalM P w K mg C_Gate "first_from" ["self", "hour"] 1 (sp_Gate_first_from K C_Gate) := by
 obtain ⟨f, fd, F, g⟩ := D.ex
 refine ⟨f, fd, g, bindsF F (fun _ _ _ _ _ _ us hl => match us, hl with | [_, _], _ => rfl), fun base => F.ok sc_Gate_first_from (fun vs H Q E h => ?_) (fun cdv A outer s H0 vs Q E hr h => ?_)⟩
 · obtain ⟨v0, d0, d1, r, rfl, r0, hm, hQ⟩ := h; rfl
 ·
   obtain ⟨v0, d0, d1, r, rfl, r0, hm, hQ⟩ := h
   refine ⟨_, pss_cons (ps_for PassesOwn.never rfl (pi_tup (pe_fldk (K := K) (pv 0) (by rfl))) (pg_name (i := 2) sc_Gate_first_from.nd rfl (.inl rfl)) (pss_cons (ps_if (pt_cmpR op_ge (pv 2) (pv 1) (nomark _)) (pss_cons (ps_ret (pv 2)) pss_nil) (pss_nil))
     (pss_nil)))
     (pss_cons (ps_ret pe_non) pss_nil), ?_⟩
   have c0 : Chg ([] : List Addr) H0 H0 := Chg.refl H0
   unfold Mi.m_Gate_first_from at hm
   refine q_for ?_
   refine w_iTup ?_
   obtain ⟨u3, r4, kx5, ku6⟩ := fld_obj (n := 0) (f := "hours") at1 (by decide +kernel) rfl T_Gate.cls (T_Gate.na "hours" (by decide +kernel)) r0
   refine c_val (ku6 (val_var rfl)) ?_
   obtain ⟨e7, he7, hm⟩ := Mi.bnd hm
   refine l_tup r4 (fun i σ' H' => ∃ (s8 : Unit) (y9 : Option V), σ' = [some v0, some (.int d1), y9] ∧ Chg ([] : List Addr) H0 H' ∧ (yObj C_Gate nm_Gate ty_Gate).rep K H' [] v0 d0 ∧ (yTupL yInt).rep K H' [] u3 d0 ∧ Mi.forR (Mi.m_Gate_first_from_b1 d1) s8 (List.drop i d0) = some e7) ⟨(), none, rfl, c0, r0, r4, he7⟩ (fun i σ' H' hp => by obtain ⟨s8, y9, rfl, c0, r0, r4, _⟩ := hp; exact r4) (fun i12 x11 u13 σ' H' hx10 r14 hp => ?_) (fun σ' H' hp => ?_)
   ·
     obtain ⟨s8, y9, rfl, c0, r0, r4, hle7⟩ := hp
     obtain ⟨o15, hbe7, hore7⟩ := Mi.forR_go hle7 hx10
     unfold Mi.m_Gate_first_from_b1 at hbe7
     obtain ⟨_, rfl⟩ := r14
     refine g_name (σ' := [some v0, some (.int d1), some (.int x11)]) rfl ?_
     refine q_if (ans_t (val_ge (val_var rfl) (val_var rfl))) (fun hb => ?_) (fun hb => ?_)
     ·
       replace hbe7 := Mi.ifT hb hbe7
       refine q_ret ?_
       refine c_val (val_var rfl) ?_
       obtain rfl := Option.some.inj hbe7
       obtain rfl := Mi.or_inl hore7
       obtain rfl := Option.some.inj (Mi.orR_inl hm)
       exact hQ _ _ c0 (opt_i nn_int yInt_i) 
     replace hbe7 := Mi.ifF hb hbe7
     refine w_fall ?_
     refine w_nextJ ?_
     obtain rfl := Option.some.inj hbe7
     replace hore7 := Mi.or_inr hore7
     exact ⟨_, (some (.int x11)), rfl, c0, r0, r4, hore7⟩
   obtain ⟨s8, y9, rfl, c0, r0, r4, hle7⟩ := hp
   obtain rfl := Mi.forR_end hle7
   replace hm := Mi.orR_inr hm
   refine q_ret ?_
   refine c_val val_c ?_
   obtain rfl := Option.some.inj hm
   exact hQ _ _ c0 opt_n 
abbrev s_opening : Stmt := topS 2
theorem sc_opening : FnScope ["gate", "hour", "last", "found"] ["gate", "hour", "last"] (defScope s_opening) := ⟨rfl, rfl, rfl, by decide +kernel, rfl, by decide +kernel, by decide +kernel⟩
def sp_opening (K : PySem.W.Frag) (C_Gate : Addr) : Sp := fun vs H Q _ => ∃ (v0 : V) (d0 : ((List Int))) (d1 : Int) (d2 : Int) (r : Int), vs = [v0, (.int d1), (.int d2)] ∧ (yObj C_Gate nm_Gate ty_Gate).rep K H [] v0 d0 ∧ Mi.m_opening d0 d1 d2 = some r ∧ ∀ H', Chg ([]) H H' → Q (.int r) H'
theorem ok_opening (B : Bi mg) (CN : Cs K mg) (D : Dfn K mg "opening" s_opening) {C_Gate : Addr} (T_Gate : Tx K mg C_Gate "Gate" nm_Gate) (M_Gate_first_from : CalM P w K mg C_Gate "first_from" ["self", "hour"] 1 (sp_Gate_first_from K C_Gate)) : Cal P w K mg "opening" ["gate", "hour", "last"] 2 (sp_opening K C_Gate) := by
 obtain ⟨f, fd, F, g⟩ := D.ex
 refine ⟨f, fd, g, F.kp, bindsF F (fun _ _ _ _ _ _ us hl => match us, hl with | [_, _, _], _ => rfl), fun base => F.ok sc_opening (fun vs H Q E h => ?_) (fun cdv A outer s H0 vs Q E hr h => ?_)⟩
 · obtain ⟨v0, d0, d1, d2, r, rfl, r0, hm, hQ⟩ := h; rfl
 ·
   obtain ⟨v0, d0, d1, d2, r, rfl, r0, hm, hQ⟩ := h
   obtain ⟨fM_Gate_first_from, fdM_Gate_first_from, hM_Gate_first_from, bM_Gate_first_from, OM_Gate_first_from⟩ := M_Gate_first_from.ex
   refine ⟨_, pss_ifNC (i := 3) sc_opening.nd rfl (.inl rfl) (pe_meth (pv 0) T_Gate.cls hM_Gate_first_from (OM_Gate_first_from base) (hr.mono (by decide)) (fun s us _ hl => by rw [List.append_nil] at hl ⊢; exact bM_Gate_first_from s us hl) .nil pass0 (pa_cons (pv 1) pa_nil)) op_notN1 pe_non (nomark _) (pss_cons (ps_ret (pv 3)) pss_nil) (pss_nil) (pss_cons (ps_ret (pe_op op_add (pv 2) pe_int)) pss_nil), ?_⟩
   have c0 : Chg ([] : List Addr) H0 H0 := Chg.refl H0
   unfold Mi.m_opening at hm
   refine q_asg ?_
   refine w_meth ?_
   refine c_val (val_var rfl) ?_
   refine meth_obj r0 (by decide +kernel) ?_
   refine w_args (va_cons (val_var rfl) va_nil) ?_
   obtain ⟨q4, hq4, hm⟩ := Mi.bnd hm
   refine ⟨v0, d0, d1, q4, rfl, r0, hq4, fun v7 H6 c5 r8  => ?_⟩
   have r0 := Ty.fz r0 c5
   have c0 := c0.trans c5.none
   refine g_name (σ' := [some v0, some (.int d1), some (.int d2), some v7]) rfl ?_
   refine q_if (ans_t (val_notN r8 (val_var rfl))) (fun hb => ?_) (fun hb => ?_)
   ·
     replace hm := Mi.ifT hb hm
     refine q_ret ?_
     refine c_val (val_var rfl) ?_
     obtain ⟨x9, hx9, hm⟩ := Mi.bnd hm
     obtain ⟨_, rfl⟩ := opt_int r8 hx9
     obtain rfl := Option.some.inj hm
     exact hQ _ c0 
   replace hm := Mi.ifF hb hm
   refine w_fall ?_
   refine q_ret ?_
   refine c_val (val_add (val_var rfl) val_c) ?_
   obtain rfl := Option.some.inj hm
   exact hQ _ c0 
abbrev s_Gate_shrunk : Stmt := inClass (topS 37) 6
theorem sc_Gate_shrunk : FnScope ["self", "low", "high", "found", "run", "hour"] ["self", "low", "high"] (defScope s_Gate_shrunk) := ⟨rfl, rfl, rfl, by decide +kernel, rfl, by decide +kernel, by decide +kernel⟩
def sp_Gate_shrunk (K : PySem.W.Frag) (C_Gate : Addr) : Sp := fun vs H Q _ => ∃ (v0 : V) (d0 : ((List Int))) (d1 : Int) (d2 : Int) (r : ((List Int))), vs = [v0, (.int d1), (.int d2)] ∧ (yObj C_Gate nm_Gate ty_Gate).rep K H [] v0 d0 ∧ Mi.m_Gate_shrunk d0 d1 d2 = some r ∧ ∀ v H', Chg ([]) H H' → (yObj C_Gate nm_Gate ty_Gate).rep K H' [] v r → Q v H'
theorem ok_Gate_shrunk (B : Bi mg) (CN : Cs K mg) {C_Gate : Addr} (T_Gate : Tx K mg C_Gate "Gate" nm_Gate) (I_Gate : CalI P w K mg C_Gate "Gate.__init__" s_Gate_init (kw_Gate K) ["self", "hours"] 1 (sp_Gate_init K C_Gate)) (D : DfnM K C_Gate "shrunk" "Gate.shrunk" s_Gate_shrunk) : CalM P w K mg C_Gate "shrunk" ["self", "low", "high"] 3 (sp_Gate_shrunk K C_Gate) := by
 obtain ⟨f, fd, F, g⟩ := D.ex
 refine ⟨f, fd, g, bindsF F (fun _ _ _ _ _ _ us hl => match us, hl with | [_, _, _], _ => rfl), fun base => F.ok sc_Gate_shrunk (fun vs H Q E h => ?_) (fun cdv A outer s H0 vs Q E hr h => ?_)⟩
 · obtain ⟨v0, d0, d1, d2, r, rfl, r0, hm, hQ⟩ := h; rfl
 ·
   obtain ⟨v0, d0, d1, d2, r, rfl, r0, hm, hQ⟩ := h
   obtain ⟨fI_Gate, fdI_Gate, MI_Gate, FI_Gate, OI_Gate⟩ := I_Gate.ex
   have kb_Gate_1_ : Binds K fdI_Gate ["self", "hours"] [] := FunD.bindsN FI_Gate (fun _ _ _ _ _ _ us hl => match us, hl with | [_, _], _ => rfl)
   refine ⟨_, pss_cons (ps_set (i := 3) sc_Gate_shrunk.nd rfl (.inl rfl) (pe_lst pa_nil))
     (pss_cons (ps_set (i := 4) sc_Gate_shrunk.nd rfl (.inl rfl) pe_int)
     (pss_cons (ps_for PassesOwn.never rfl (pi_range1 (by rfl) B.range (pa_cons (pe_ifExp (pt_truK (K := K) (pe_fldk (K := K) (pv 0) (by rfl))) (pe_op op_add (pe_ix (ix_t (K := K)) (pe_fldk (K := K) (pv 0) (by rfl)) (pe_un un_neg pe_int) (fun _ _ => rfl)) pe_int) pe_int) pa_nil)) (pg_name (i := 5) sc_Gate_shrunk.nd rfl (.inl rfl)) (pss_cons (ps_set (i := 4) sc_Gate_shrunk.nd rfl (.inl rfl) (pe_ifExp (pt_cmpR (op_in_q (K := K)) (pv 5) (pe_fldk (K := K) (pv 0) (by rfl)) (by rfl)) (pe_op op_add (pv 4) pe_int) pe_int))
     (pss_cons (ps_if (PW.pt (pw_and (pt_cmpR op_gt (pv 4) (pe_op op_sub (pv 2) (pv 1)) (nomark _)) (pw_and1 (pt_cmpR op_ge (pv 5) (pv 2) (nomark _))))) (pss_cons (ps_expr (pe_bm PySem.F.plainAttrs_list PySem.F.slot_list_append PySem.F.type_list_append mt_append (pv 3) (pa_cons (pe_op op_sub (pv 5) (pv 2)) pa_nil)))
     (pss_nil)) (pss_nil))
     (pss_nil))))
     (pss_cons (ps_ret (pe_make MI_Gate (OI_Gate base) (hr.mono (by decide)) (by rfl) T_Gate.mgC kb_Gate_1_ .nil pass0 (pa_cons (pv 3) pa_nil))) pss_nil))), ?_⟩
   have c0 : Chg ([] : List Addr) H0 H0 := Chg.refl H0
   unfold Mi.m_Gate_shrunk at hm
   refine q_asg ?_
   refine w_lst ?_
   refine w_args va_nil ?_
   refine e_lst (K := K) (τ := yInt) (by exact Nat.le_of_ble_eq_true rfl) .nil fun p4 H8 np7 c5 r6 => ?_
   have n9 : ∀ a ∈ [p4], H0 a = none := one_fresh (c0.dom p4 np7)
   have r0 := Ty.fz r0 c5
   have c0 := c0.trans c5.none
   refine g_name (σ' := [some v0, some (.int d1), some (.int d2), some (.ref p4), none, none]) rfl ?_
   obtain ⟨run10, hrun10, hm⟩ := Mi.letE hm
   refine q_setE val_c (congrArg V.int hrun10) (σ' := [some v0, some (.int d1), some (.int d2), some (.ref p4), some (.int run10), none]) rfl ?_
   refine q_for ?_
   refine w_iRng1 ?_
   obtain ⟨u11, r12, kx13, ku14⟩ := fld_obj (n := 0) (f := "hours") at1 (by decide +kernel) rfl T_Gate.cls (T_Gate.na "hours" (by decide +kernel)) r0
   obtain ⟨x22, hx22, hm⟩ := Mi.bnd hm
   refine w_args (va_cons (val_ifO (f := V.int) (ans_truT r12 (ku14 (val_var rfl))) hx22 (fun hs15 => by (obtain ⟨u16, r17, kx18, ku19⟩ := fld_obj (n := 0) (f := "hours") at1 (by decide +kernel) rfl T_Gate.cls (T_Gate.na "hours" (by decide +kernel)) r0; obtain ⟨x20, hx20, hs15⟩ := Mi.bnd hs15; cases hs15; exact (val_add (itm_TI r17 hx20 (ku19 (val_var rfl)) (val_neg val_c)) val_c))) (fun hs21 => by (cases hs21; exact val_c))) va_nil) ?_
   obtain ⟨g23, hg23, hm⟩ := Mi.bnd hm
   obtain ⟨e24, he24, hm⟩ := Mi.bnd hm
   refine l_rng1 hg23 (fun i σ' H' => ∃ (s25 : ((List Int) × Int)) (y26 : Option V), σ' = [some v0, some (.int d1), some (.int d2), some (.ref p4), some (.int s25.2), y26] ∧ Chg ([] : List Addr) H0 H' ∧ (yObj C_Gate nm_Gate ty_Gate).rep K H' [] v0 d0 ∧ (yLst yInt).rep K H' [p4] (.ref p4) s25.1 ∧ Mi.forN (Mi.m_Gate_shrunk_b1 d0 d1 d2) s25 (List.drop i g23) = some e24) ⟨(([] : (List Int)), run10), none, rfl, c0, r0, r6, he24⟩ (fun i29 x28 σ' H' hx27 hp => ?_) (fun σ' H' hp => ?_)
   ·
     obtain ⟨s25, y26, rfl, c0, r0, r6, hle24⟩ := hp
     obtain ⟨_, hbe24, hle24⟩ := Mi.forN_go hle24 hx27
     unfold Mi.m_Gate_shrunk_b1 at hbe24
     refine g_name (σ' := [some v0, some (.int d1), some (.int d2), some (.ref p4), some (.int s25.2), some (.int x28)]) rfl ?_
     obtain ⟨u30, r31, kx32, ku33⟩ := fld_obj (n := 0) (f := "hours") at1 (by decide +kernel) rfl T_Gate.cls (T_Gate.na "hours" (by decide +kernel)) r0
     obtain ⟨x36, hx36, hbe24⟩ := Mi.bnd hbe24
     obtain ⟨run37, hrun37, hbe24⟩ := Mi.letE hbe24
     refine q_setE (val_ifO (f := V.int) (ans_t (val_inT r31 (val_var rfl) (ku33 (val_var rfl)))) hx36 (fun hs34 => by (cases hs34; exact (val_add (val_var rfl) val_c))) (fun hs35 => by (cases hs35; exact val_c))) (congrArg V.int hrun37) (σ' := [some v0, some (.int d1), some (.int d2), some (.ref p4), some (.int run37), some (.int x28)]) rfl ?_
     obtain ⟨s38, hs38, hbe24⟩ := Mi.bnd hbe24
     refine s_join (R := fun σ' H' => σ' = [some v0, some (.int d1), some (.int d2), some (.ref p4), some (.int run37), some (.int x28)] ∧ Chg ([] : List Addr) H0 H' ∧ (yObj C_Gate nm_Gate ty_Gate).rep K H' [] v0 d0 ∧ (yLst yInt).rep K H' [p4] (.ref p4) s38) (fun nx kx => ?_) (fun σ' H' hj => ?_)
     ·
       refine s_if (ans_andB (ans_t (val_gt (val_var rfl) (val_sub (val_var rfl) (val_var rfl)))) (fun _ => (ans_t (val_ge (val_var rfl) (val_var rfl))))) (fun hb => ?_) (fun hb => ?_)
       ·
         replace hs38 := Mi.ifT hb hs38
         refine q_drop (w_bm (c_val (val_var rfl) ⟨tyv_lst r6, ?_⟩))
         refine w_args (va_cons (val_sub (val_var rfl) (val_var rfl)) va_nil) ?_
         obtain ⟨x40, hx40, hs38⟩ := Mi.bnd hs38
         refine m_app r6 yInt_i hx40 fun H42 c41 r6 => ?_
         have r0 := Ty.fz r0 c41
         have c0 := c0.join c41 (fun a h => .inr (n9 a h))
         refine w_nextJ ?_
         obtain rfl := Option.some.inj hs38
         exact kx _ _ ⟨rfl, c0, r0, r6⟩
       ·
         replace hs38 := Mi.ifF hb hs38
         refine w_nextJ ?_
         obtain rfl := Option.some.inj hs38
         exact kx _ _ ⟨rfl, c0, r0, r6⟩
     obtain ⟨rfl, c0, r0, r6⟩ := hj
     refine w_nextJ ?_
     obtain rfl := Option.some.inj hbe24
     exact ⟨_, (some (.int x28)), rfl, c0, r0, r6, hle24⟩
   obtain ⟨s25, y26, rfl, c0, r0, r6, hle24⟩ := hp
   obtain rfl := Mi.forN_end hle24
   refine q_ret ?_
   refine w_mk ?_
   refine w_args (va_cons (val_var rfl) va_nil) ?_
   intro p43 dx44 nx45 ndx46 nex47
   have d48 : Dj [p4] [p43] := Ty.nin r6 nx45
   have n49 : ∀ a ∈ [p43], H0 a = none := one_fresh (c0.dom p43 nx45)
   obtain ⟨c50, r51⟩ := make_new (K := K) (C := C_Gate) nx45 ndx46 nex47
   have r0 := Ty.fz r0 c50
   have r6 := Ty.ex r6 c50
   have c0 := c0.trans c50.none
   obtain ⟨q52, hq52, hm⟩ := Mi.bnd hm
   refine ⟨p43, dx44, (.ref p4), [p4], s25.1, q52, rfl, r51, r6, d48.symm, hq52, fun H54 c53 r55 => ⟨rfl, ?_⟩⟩
   have r0 := Ty.fz r0 c53
   have r6 := Ty.chg r6 c53 d48
   have c0 := c0.join c53 (fun a h => .inr (n49 a h))
   obtain rfl := Option.some.inj hm
   exact hQ _ _ c0 r55 
abbrev s_asked : Stmt := topS 3
theorem sc_asked : FnScope ["sailings", "order", "hours", "last", "one", "low", "high"] ["sailings", "order", "hours", "last"] (defScope s_asked) := ⟨rfl, rfl, rfl, by decide +kernel, rfl, by decide +kernel, by decide +kernel⟩
def sp_asked (K : PySem.W.Frag) (C_Gate : Addr) : Sp := fun vs H Q _ => ∃ (v0 : V) (F0 : List Addr) (d0 : (List (Int × Int))) (v1 : V) (d1 : (List (Int ⊕ (List Nat) ⊕ ((List Int))))) (v2 : V) (F2 : List Addr) (d2 : (List Int)) (d3 : Int) (r : (Int × Int)), vs = [v0, v1, v2, (.int d3)] ∧ (yLst (yTup (sCons yInt (sOne yInt)))).rep K H F0 v0 d0 ∧ (yTupL (ySum yInt (ySum yStr (yObj C_Gate nm_Gate ty_Gate)))).rep K H [] v1 d1 ∧ (yLst yInt).rep K H F2 v2 d2 ∧ Mi.m_asked d0 d1 d2 d3 = some r ∧ ∀ v H', Chg ([]) H H' → (yTup (sCons yInt (sOne yInt))).rep K H' [] v r → Q v H'
theorem ok_asked (B : Bi mg) (CN : Cs K mg) (D : Dfn K mg "asked" s_asked) {C_Gate : Addr} (T_Gate : Tx K mg C_Gate "Gate" nm_Gate) (C_opening : Cal P w K mg "opening" ["gate", "hour", "last"] 2 (sp_opening K C_Gate)) (M_Gate_shrunk : CalM P w K mg C_Gate "shrunk" ["self", "low", "high"] 3 (sp_Gate_shrunk K C_Gate)) : Cal P w K mg "asked" ["sailings", "order", "hours", "last"] 4 (sp_asked K C_Gate) := by
 obtain ⟨f, fd, F, g⟩ := D.ex
 refine ⟨f, fd, g, F.kp, bindsF F (fun _ _ _ _ _ _ us hl => match us, hl with | [_, _, _, _], _ => rfl), fun base => F.ok sc_asked (fun vs H Q E h => ?_) (fun cdv A outer s H0 vs Q E hr h => ?_)⟩
 · obtain ⟨v0, F0, d0, v1, d1, v2, F2, d2, d3, r, rfl, r0, r1, r2, hm, hQ⟩ := h; rfl
 ·
   obtain ⟨v0, F0, d0, v1, d1, v2, F2, d2, d3, r, rfl, r0, r1, r2, hm, hQ⟩ := h
   obtain ⟨fM_Gate_shrunk, fdM_Gate_shrunk, hM_Gate_shrunk, bM_Gate_shrunk, OM_Gate_shrunk⟩ := M_Gate_shrunk.ex
   refine ⟨_, pss_cons (ps_set (i := 4) sc_asked.nd rfl (.inl rfl) (pe_ix (ix_t (K := K)) (pv 1) pe_int (fun _ _ => rfl)))
     (pss_cons (ps_asg (pe_ix (ix_l (K := K)) (pv 0) (pv 4) (fun _ _ => rfl)) (pg_tupk (K := K) (n := 2) rfl (pgs_cons (pg_name (i := 5) sc_asked.nd rfl (.inl rfl)) (pgs_cons (pg_name (i := 6) sc_asked.nd rfl (.inl rfl)) pgs_nil))))
     (pss_cons (ps_match (pe_ix (ix_t (K := K)) (pv 1) pe_int (fun _ _ => rfl)) (mc_cons (pss_cons (ps_ret (pe_tup (pa_cons (pe_ix (ix_t (K := K)) (pv 1) pe_int (fun _ _ => rfl)) (pa_cons (pe_op op_add (pe_op op_add (pe_ix (ix_l (K := K)) (pv 2) (pv 4) (fun _ _ => rfl)) (pv 6)) (pe_ix (ix_t (K := K)) (pv 1) pe_int (fun _ _ => rfl))) pa_nil)))) pss_nil) (mc_cons (pss_cons (ps_ret (pe_tup (pa_cons (pv 4) (pa_cons (pe_op op_sub (pe_ix (ix_l (K := K)) (pv 2) (pe_ix (ix_t (K := K)) (pv 1) pe_int (fun _ _ => rfl)) (fun _ _ => rfl)) (pe_ix (ix_t (K := K)) (pv 1) pe_int (fun _ _ => rfl))) pa_nil)))) pss_nil) (mc_cons (pss_cons (ps_ret (pe_tup (pa_cons (pv 4) (pa_cons (pe_op op_sub (pe_op op_sub (pe_op op_add (pe_ix (ix_l (K := K)) (pv 2) (pe_ix (ix_t (K := K)) (pv 1) pe_int (fun _ _ => rfl)) (fun _ _ => rfl)) (pe_ix (ix_t (K := K)) (pe_ix (ix_l (K := K)) (pv 0) (pe_ix (ix_t (K := K)) (pv 1) pe_int (fun _ _ => rfl)) (fun _ _ => rfl)) pe_int (fun _ _ => rfl))) (pv 5)) (pe_ix (ix_t (K := K)) (pv 1) pe_int (fun _ _ => rfl))) pa_nil)))) pss_nil) (mc_cons (pss_cons (ps_ret (pe_tup (pa_cons (pv 4) (pa_cons (pe_ifExp (pt_cmpR op_gt (pe_op op_add (pe_ix (ix_l (K := K)) (pv 2) (pv 4) (fun _ _ => rfl)) (pv 6)) (pe_ix (ix_t (K := K)) (pv 1) pe_int (fun _ _ => rfl)) (nomark _)) (pe_op op_add (pv 3) pe_int) pe_int) pa_nil)))) pss_nil) (mc_cons (pss_cons (ps_ret (pe_tup (pa_cons (pv 4) (pa_cons (pe_ix (ix_t (K := K)) (pv 1) pe_int (fun _ _ => rfl)) pa_nil)))) pss_nil) (mc_cons (pss_cons (ps_ret (pe_tup (pa_cons (pv 4) (pa_cons (pe_cc C_opening hr (pa_cons (pe_ix (ix_t (K := K)) (pv 1) pe_int (fun _ _ => rfl)) (pa_cons (pe_ix (ix_l (K := K)) (pv 2) (pv 4) (fun _ _ => rfl)) (pa_cons (pv 3) pa_nil)))) pa_nil)))) pss_nil) mc_nil)))))))
     (pss_cons (ps_ret (pe_tup (pa_cons (pv 4) (pa_cons (pe_cc C_opening hr (pa_cons (pe_meth (pe_ix (ix_t (K := K)) (pv 1) pe_int (fun _ _ => rfl)) T_Gate.cls hM_Gate_shrunk (OM_Gate_shrunk base) (hr.mono (by decide)) (fun s us _ hl => by rw [List.append_nil] at hl ⊢; exact bM_Gate_shrunk s us hl) .nil pass0 (pa_cons (pv 5) (pa_cons (pv 6) pa_nil))) (pa_cons (pe_ix (ix_l (K := K)) (pv 2) (pv 4) (fun _ _ => rfl)) (pa_cons (pv 3) pa_nil)))) pa_nil)))) pss_nil))), ?_⟩
   have c0 : Chg ([] : List Addr) H0 H0 := Chg.refl H0
   unfold Mi.m_asked at hm
   obtain ⟨x5, hx5, hm⟩ := Mi.bnd hm
   obtain ⟨u6, r7, ku8⟩ := itm_T r1 hx5
   obtain ⟨x9, hx9, hm⟩ := Mi.bnd hm
   have r10 := sum_L r7 hx9
   obtain ⟨_, rfl⟩ := r10
   obtain ⟨one11, hone11, hm⟩ := Mi.letE hm
   refine q_setE (ku8 (val_var rfl) val_c) (congrArg V.int hone11) (σ' := [some v0, some v1, some v2, some (.int d3), some (.int one11), none, none]) rfl ?_
   refine q_asg ?_
   obtain ⟨x12, hx12, hm⟩ := Mi.bnd hm
   obtain ⟨u13, r14, ku15⟩ := itm_L r0 hx12
   refine c_val (ku15 (val_var rfl) (val_var rfl)) ?_
   refine g_tup2 r14 fun u16 u17 r18 r19 => ?_
   obtain ⟨_, rfl⟩ := r18
   obtain ⟨_, rfl⟩ := r19
   refine g_names (σ' := [some v0, some v1, some v2, some (.int d3), some (.int one11), some (.int x12.1), some (.int x12.2)]) rfl ?_
   refine q_match ?_
   obtain ⟨x20, hx20, hm⟩ := Mi.bnd hm
   obtain ⟨u21, r22, ku23⟩ := itm_T r1 hx20
   obtain ⟨x24, hx24, hm⟩ := Mi.bnd hm
   have r25 := sum_R r22 hx24
   obtain ⟨x26, hx26, hm⟩ := Mi.bnd hm
   have r27 := sum_L r25 hx26
   obtain ⟨_, rfl⟩ := r27
   refine c_val (ku23 (val_var rfl) val_c) ⟨_, rfl, ?_⟩
   refine c_case (l := ([97, 102, 116, 101, 114] : List Nat)) (by decide +kernel) (fun hb => ?_) (fun hb => ?_)
   ·
     replace hm := Mi.ifT hb hm
     refine q_ret ?_
     refine w_tup ?_
     obtain ⟨x28, hx28, hm⟩ := Mi.bnd hm
     obtain ⟨u29, r30, ku31⟩ := itm_T r1 hx28
     obtain ⟨x32, hx32, hm⟩ := Mi.bnd hm
     have r33 := sum_L r30 hx32
     obtain ⟨_, rfl⟩ := r33
     obtain ⟨x34, hx34, hm⟩ := Mi.bnd hm
     obtain ⟨x35, hx35, hm⟩ := Mi.bnd hm
     obtain ⟨u36, r37, ku38⟩ := itm_T r1 hx35
     obtain ⟨x39, hx39, hm⟩ := Mi.bnd hm
     have r40 := sum_L r37 hx39
     obtain ⟨_, rfl⟩ := r40
     refine w_args (va_cons (ku31 (val_var rfl) val_c) (va_cons (val_add (val_add (itm_LI r2 hx34 (val_var rfl) (val_var rfl)) (val_var rfl)) (ku38 (val_var rfl) val_c)) va_nil)) ?_
     refine e_tup (K := K) (ty := (sCons yInt (sOne yInt))) (F := []) (d := (x32, ((x34 + x12.2) + x39))) (by exact Nat.le_of_ble_eq_true rfl) ⟨_, _, _, _, rfl, rfl, yInt_i, ⟨_, rfl, yInt_i⟩⟩ fun p41 H45 np44 c42 r43  => ?_
     have r0 := Ty.ex r0 c42
     have r1 := Ty.fz r1 c42
     have r2 := Ty.ex r2 c42
     have c0 := c0.trans c42.none
     obtain rfl := Option.some.inj hm
     exact hQ _ _ c0 r43 
   replace hm := Mi.ifF hb hm
   refine c_case (l := ([119, 105, 116, 104] : List Nat)) (by decide +kernel) (fun hb => ?_) (fun hb => ?_)
   ·
     replace hm := Mi.ifT hb hm
     refine q_ret ?_
     refine w_tup ?_
     obtain ⟨x46, hx46, hm⟩ := Mi.bnd hm
     obtain ⟨u47, r48, ku49⟩ := itm_T r1 hx46
     obtain ⟨x50, hx50, hm⟩ := Mi.bnd hm
     have r51 := sum_L r48 hx50
     obtain ⟨_, rfl⟩ := r51
     obtain ⟨x52, hx52, hm⟩ := Mi.bnd hm
     obtain ⟨x53, hx53, hm⟩ := Mi.bnd hm
     obtain ⟨u54, r55, ku56⟩ := itm_T r1 hx53
     obtain ⟨x57, hx57, hm⟩ := Mi.bnd hm
     have r58 := sum_L r55 hx57
     obtain ⟨_, rfl⟩ := r58
     refine w_args (va_cons (val_var rfl) (va_cons (val_sub (itm_LI r2 hx52 (val_var rfl) (ku49 (val_var rfl) val_c)) (ku56 (val_var rfl) val_c)) va_nil)) ?_
     refine e_tup (K := K) (ty := (sCons yInt (sOne yInt))) (F := []) (d := (one11, (x52 - x57))) (by exact Nat.le_of_ble_eq_true rfl) ⟨_, _, _, _, rfl, rfl, yInt_i, ⟨_, rfl, yInt_i⟩⟩ fun p59 H63 np62 c60 r61  => ?_
     have r0 := Ty.ex r0 c60
     have r1 := Ty.fz r1 c60
     have r2 := Ty.ex r2 c60
     have c0 := c0.trans c60.none
     obtain rfl := Option.some.inj hm
     exact hQ _ _ c0 r61 
   replace hm := Mi.ifF hb hm
   refine c_case (l := ([108, 97, 110, 100, 115] : List Nat)) (by decide +kernel) (fun hb => ?_) (fun hb => ?_)
   ·
     replace hm := Mi.ifT hb hm
     refine q_ret ?_
     refine w_tup ?_
     obtain ⟨x64, hx64, hm⟩ := Mi.bnd hm
     obtain ⟨u65, r66, ku67⟩ := itm_T r1 hx64
     obtain ⟨x68, hx68, hm⟩ := Mi.bnd hm
     have r69 := sum_L r66 hx68
     obtain ⟨_, rfl⟩ := r69
     obtain ⟨x70, hx70, hm⟩ := Mi.bnd hm
     obtain ⟨x71, hx71, hm⟩ := Mi.bnd hm
     obtain ⟨u72, r73, ku74⟩ := itm_T r1 hx71
     obtain ⟨x75, hx75, hm⟩ := Mi.bnd hm
     have r76 := sum_L r73 hx75
     obtain ⟨_, rfl⟩ := r76
     obtain ⟨x77, hx77, hm⟩ := Mi.bnd hm
     obtain ⟨u78, r79, ku80⟩ := itm_L r0 hx77
     obtain ⟨u81, F82, r83, su84, kx85, ku86⟩ := itm_tup (n := 1) (atS at1) r79
     obtain ⟨rfl, rfl⟩ := r83
     obtain ⟨x87, hx87, hm⟩ := Mi.bnd hm
     obtain ⟨u88, r89, ku90⟩ := itm_T r1 hx87
     obtain ⟨x91, hx91, hm⟩ := Mi.bnd hm
     have r92 := sum_L r89 hx91
     obtain ⟨_, rfl⟩ := r92
     refine w_args (va_cons (val_var rfl) (va_cons (val_sub (val_sub (val_add (itm_LI r2 hx70 (val_var rfl) (ku67 (val_var rfl) val_c)) (ku86 (ku80 (val_var rfl) (ku74 (val_var rfl) val_c)) val_c)) (val_var rfl)) (ku90 (val_var rfl) val_c)) va_nil)) ?_
     refine e_tup (K := K) (ty := (sCons yInt (sOne yInt))) (F := []) (d := (one11, (((x70 + x77.2) - x12.1) - x91))) (by exact Nat.le_of_ble_eq_true rfl) ⟨_, _, _, _, rfl, rfl, yInt_i, ⟨_, rfl, yInt_i⟩⟩ fun p93 H97 np96 c94 r95  => ?_
     have r0 := Ty.ex r0 c94
     have r1 := Ty.fz r1 c94
     have r2 := Ty.ex r2 c94
     have c0 := c0.trans c94.none
     obtain rfl := Option.some.inj hm
     exact hQ _ _ c0 r95 
   replace hm := Mi.ifF hb hm
   refine c_case (l := ([98, 121] : List Nat)) (by decide +kernel) (fun hb => ?_) (fun hb => ?_)
   ·
     replace hm := Mi.ifT hb hm
     refine q_ret ?_
     refine w_tup ?_
     obtain ⟨x98, hx98, hm⟩ := Mi.bnd hm
     obtain ⟨x99, hx99, hm⟩ := Mi.bnd hm
     obtain ⟨u100, r101, ku102⟩ := itm_T r1 hx99
     obtain ⟨x103, hx103, hm⟩ := Mi.bnd hm
     have r104 := sum_L r101 hx103
     obtain ⟨_, rfl⟩ := r104
     obtain ⟨x107, hx107, hm⟩ := Mi.bnd hm
     refine w_args (va_cons (val_var rfl) (va_cons (val_ifO (f := V.int) (ans_t (val_gt (val_add (itm_LI r2 hx98 (val_var rfl) (val_var rfl)) (val_var rfl)) (ku102 (val_var rfl) val_c))) hx107 (fun hs105 => by (cases hs105; exact (val_add (val_var rfl) val_c))) (fun hs106 => by (cases hs106; exact val_c))) va_nil)) ?_
     refine e_tup (K := K) (ty := (sCons yInt (sOne yInt))) (F := []) (d := (one11, x107)) (by exact Nat.le_of_ble_eq_true rfl) ⟨_, _, _, _, rfl, rfl, yInt_i, ⟨_, rfl, yInt_i⟩⟩ fun p108 H112 np111 c109 r110  => ?_
     have r0 := Ty.ex r0 c109
     have r1 := Ty.fz r1 c109
     have r2 := Ty.ex r2 c109
     have c0 := c0.trans c109.none
     obtain rfl := Option.some.inj hm
     exact hQ _ _ c0 r110 
   replace hm := Mi.ifF hb hm
   refine c_case (l := ([102, 114, 111, 109] : List Nat)) (by decide +kernel) (fun hb => ?_) (fun hb => ?_)
   ·
     replace hm := Mi.ifT hb hm
     refine q_ret ?_
     refine w_tup ?_
     obtain ⟨x113, hx113, hm⟩ := Mi.bnd hm
     obtain ⟨u114, r115, ku116⟩ := itm_T r1 hx113
     obtain ⟨x117, hx117, hm⟩ := Mi.bnd hm
     have r118 := sum_L r115 hx117
     obtain ⟨_, rfl⟩ := r118
     refine w_args (va_cons (val_var rfl) (va_cons (ku116 (val_var rfl) val_c) va_nil)) ?_
     refine e_tup (K := K) (ty := (sCons yInt (sOne yInt))) (F := []) (d := (one11, x117)) (by exact Nat.le_of_ble_eq_true rfl) ⟨_, _, _, _, rfl, rfl, yInt_i, ⟨_, rfl, yInt_i⟩⟩ fun p119 H123 np122 c120 r121  => ?_
     have r0 := Ty.ex r0 c120
     have r1 := Ty.fz r1 c120
     have r2 := Ty.ex r2 c120
     have c0 := c0.trans c120.none
     obtain rfl := Option.some.inj hm
     exact hQ _ _ c0 r121 
   replace hm := Mi.ifF hb hm
   refine c_case (l := ([103, 97, 116, 101] : List Nat)) (by decide +kernel) (fun hb => ?_) (fun hb => ?_)
   ·
     replace hm := Mi.ifT hb hm
     refine q_ret ?_
     refine w_tup ?_
     refine w_cons ?_
     refine c_val (val_var rfl) ?_
     refine w_cons ?_
     refine w_call ?_
     obtain ⟨x124, hx124, hm⟩ := Mi.bnd hm
     obtain ⟨u125, r126, ku127⟩ := itm_T r1 hx124
     obtain ⟨x128, hx128, hm⟩ := Mi.bnd hm
     have r129 := sum_R r126 hx128
     obtain ⟨x130, hx130, hm⟩ := Mi.bnd hm
     have r131 := sum_R r129 hx130
     obtain ⟨x132, hx132, hm⟩ := Mi.bnd hm
     refine w_args (va_cons (ku127 (val_var rfl) val_c) (va_cons (itm_LI r2 hx132 (val_var rfl) (val_var rfl)) (va_cons (val_var rfl) va_nil))) ?_
     obtain ⟨q133, hq133, hm⟩ := Mi.bnd hm
     refine ⟨u125, x130, x132, d3, q133, rfl, r131, hq133, fun H135 c134  => ?_⟩
     have r0 := Ty.ex r0 c134
     have r1 := Ty.fz r1 c134
     have r2 := Ty.ex r2 c134
     have c0 := c0.trans c134.none
     refine w_nil ?_
     refine e_tup (K := K) (ty := (sCons yInt (sOne yInt))) (F := []) (d := (one11, q133)) (by exact Nat.le_of_ble_eq_true rfl) ⟨_, _, _, _, rfl, rfl, yInt_i, ⟨_, rfl, yInt_i⟩⟩ fun p136 H140 np139 c137 r138  => ?_
     have r0 := Ty.ex r0 c137
     have r1 := Ty.fz r1 c137
     have r2 := Ty.ex r2 c137
     have c0 := c0.trans c137.none
     obtain rfl := Option.some.inj hm
     exact hQ _ _ c0 r138 
   replace hm := Mi.ifF hb hm
   refine w_fall ?_
   refine q_ret ?_
   refine w_tup ?_
   refine w_cons ?_
   refine c_val (val_var rfl) ?_
   refine w_cons ?_
   refine w_call ?_
   refine w_cons ?_
   refine w_meth ?_
   obtain ⟨x141, hx141, hm⟩ := Mi.bnd hm
   obtain ⟨u142, r143, ku144⟩ := itm_T r1 hx141
   obtain ⟨x145, hx145, hm⟩ := Mi.bnd hm
   have r146 := sum_R r143 hx145
   obtain ⟨x147, hx147, hm⟩ := Mi.bnd hm
   have r148 := sum_R r146 hx147
   refine c_val (ku144 (val_var rfl) val_c) ?_
   refine meth_obj r148 (by decide +kernel) ?_
   refine w_args (va_cons (val_var rfl) (va_cons (val_var rfl) va_nil)) ?_
   obtain ⟨q149, hq149, hm⟩ := Mi.bnd hm
   refine ⟨u142, x147, x12.1, x12.2, q149, rfl, r148, hq149, fun v152 H151 c150 r153  => ?_⟩
   have r0 := Ty.ex r0 c150
   have r1 := Ty.fz r1 c150
   have r2 := Ty.ex r2 c150
   have c0 := c0.trans c150.none
   refine w_cons ?_
   obtain ⟨x154, hx154, hm⟩ := Mi.bnd hm
   refine c_val (itm_LI r2 hx154 (val_var rfl) (val_var rfl)) ?_
   refine w_cons ?_
   refine c_val (val_var rfl) ?_
   refine w_nil ?_
   obtain ⟨q155, hq155, hm⟩ := Mi.bnd hm
   refine ⟨v152, q149, x154, d3, q155, rfl, r153, hq155, fun H157 c156  => ?_⟩
   have r0 := Ty.ex r0 c156
   have r1 := Ty.fz r1 c156
   have r2 := Ty.ex r2 c156
   have c0 := c0.trans c156.none
   refine w_nil ?_
   refine e_tup (K := K) (ty := (sCons yInt (sOne yInt))) (F := []) (d := (one11, q155)) (by exact Nat.le_of_ble_eq_true rfl) ⟨_, _, _, _, rfl, rfl, yInt_i, ⟨_, rfl, yInt_i⟩⟩ fun p158 H162 np161 c159 r160  => ?_
   have r0 := Ty.ex r0 c159
   have r1 := Ty.fz r1 c159
   have r2 := Ty.ex r2 c159
   have c0 := c0.trans c159.none
   obtain rfl := Option.some.inj hm
   exact hQ _ _ c0 r160 
abbrev s_gated : Stmt := topS 34
theorem sc_gated : FnScope ["sailings", "order", "low", "high"] ["sailings", "order"] (defScope s_gated) := ⟨rfl, rfl, rfl, by decide +kernel, rfl, by decide +kernel, by decide +kernel⟩
def sp_gated (K : PySem.W.Frag) (C_Gate : Addr) : Sp := fun vs H Q _ => ∃ (v0 : V) (F0 : List Addr) (d0 : (List (Int × Int))) (v1 : V) (d1 : (List (Int ⊕ (List Nat) ⊕ ((List Int))))) (r : (List (Int ⊕ (List Nat) ⊕ ((List Int))))), vs = [v0, v1] ∧ (yLst (yTup (sCons yInt (sOne yInt)))).rep K H F0 v0 d0 ∧ (yTupL (ySum yInt (ySum yStr (yObj C_Gate nm_Gate ty_Gate)))).rep K H [] v1 d1 ∧ Mi.m_gated d0 d1 = some r ∧ ∀ v H', Chg ([]) H H' → (yTupL (ySum yInt (ySum yStr (yObj C_Gate nm_Gate ty_Gate)))).rep K H' [] v r → Q v H'
theorem ok_gated (B : Bi mg) (CN : Cs K mg) (D : Dfn K mg "gated" s_gated) {C_Gate : Addr} (T_Gate : Tx K mg C_Gate "Gate" nm_Gate) (M_Gate_shrunk : CalM P w K mg C_Gate "shrunk" ["self", "low", "high"] 3 (sp_Gate_shrunk K C_Gate)) : Cal P w K mg "gated" ["sailings", "order"] 4 (sp_gated K C_Gate) := by
 obtain ⟨f, fd, F, g⟩ := D.ex
 refine ⟨f, fd, g, F.kp, bindsF F (fun _ _ _ _ _ _ us hl => match us, hl with | [_, _], _ => rfl), fun base => F.ok sc_gated (fun vs H Q E h => ?_) (fun cdv A outer s H0 vs Q E hr h => ?_)⟩
 · obtain ⟨v0, F0, d0, v1, d1, r, rfl, r0, r1, hm, hQ⟩ := h; rfl
 ·
   obtain ⟨v0, F0, d0, v1, d1, r, rfl, r0, r1, hm, hQ⟩ := h
   obtain ⟨fM_Gate_shrunk, fdM_Gate_shrunk, hM_Gate_shrunk, bM_Gate_shrunk, OM_Gate_shrunk⟩ := M_Gate_shrunk.ex
   refine ⟨_, pss_cons (ps_if (pt_cmpR op_ne (pe_ix (ix_t (K := K)) (pv 1) pe_int (fun _ _ => rfl)) pe_str (nomark _)) (pss_cons (ps_ret (pv 1)) pss_nil) (pss_nil))
     (pss_cons (ps_asg (pe_ix (ix_l (K := K)) (pv 0) (pe_ix (ix_t (K := K)) (pv 1) pe_int (fun _ _ => rfl)) (fun _ _ => rfl)) (pg_tupk (K := K) (n := 2) rfl (pgs_cons (pg_name (i := 2) sc_gated.nd rfl (.inl rfl)) (pgs_cons (pg_name (i := 3) sc_gated.nd rfl (.inl rfl)) pgs_nil))))
     (pss_cons (ps_ret (pe_tup (pa_cons pe_str (pa_cons (pe_ix (ix_t (K := K)) (pv 1) pe_int (fun _ _ => rfl)) (pa_cons (pe_meth (pe_ix (ix_t (K := K)) (pv 1) pe_int (fun _ _ => rfl)) T_Gate.cls hM_Gate_shrunk (OM_Gate_shrunk base) (hr.mono (by decide)) (fun s us _ hl => by rw [List.append_nil] at hl ⊢; exact bM_Gate_shrunk s us hl) .nil pass0 (pa_cons (pv 2) (pa_cons (pv 3) pa_nil))) pa_nil))))) pss_nil)), ?_⟩
   have c0 : Chg ([] : List Addr) H0 H0 := Chg.refl H0
   unfold Mi.m_gated at hm
   obtain ⟨x3, hx3, hm⟩ := Mi.bnd hm
   obtain ⟨u4, r5, ku6⟩ := itm_T r1 hx3
   obtain ⟨x7, hx7, hm⟩ := Mi.bnd hm
   have r8 := sum_R r5 hx7
   obtain ⟨x9, hx9, hm⟩ := Mi.bnd hm
   have r10 := sum_L r8 hx9
   obtain ⟨_, rfl⟩ := r10
   refine q_if (ans_t (val_neS (ku6 (val_var rfl) val_c) (val_cS (a := ([98, 97, 114] : List Nat)) (by decide +kernel)))) (fun hb => ?_) (fun hb => ?_)
   ·
     replace hm := Mi.ifT hb hm
     refine q_ret ?_
     refine c_val (val_var rfl) ?_
     obtain rfl := Option.some.inj hm
     exact hQ _ _ c0 r1 
   replace hm := Mi.ifF hb hm
   refine w_fall ?_
   refine q_asg ?_
   obtain ⟨x11, hx11, hm⟩ := Mi.bnd hm
   obtain ⟨u12, r13, ku14⟩ := itm_T r1 hx11
   obtain ⟨x15, hx15, hm⟩ := Mi.bnd hm
   have r16 := sum_L r13 hx15
   obtain ⟨_, rfl⟩ := r16
   obtain ⟨x17, hx17, hm⟩ := Mi.bnd hm
   obtain ⟨u18, r19, ku20⟩ := itm_L r0 hx17
   refine c_val (ku20 (val_var rfl) (ku14 (val_var rfl) val_c)) ?_
   refine g_tup2 r19 fun u21 u22 r23 r24 => ?_
   obtain ⟨_, rfl⟩ := r23
   obtain ⟨_, rfl⟩ := r24
   refine g_names (σ' := [some v0, some v1, some (.int x17.1), some (.int x17.2)]) rfl ?_
   refine q_ret ?_
   refine w_tup ?_
   refine w_cons ?_
   refine c_val (val_cS (a := ([103, 97, 116, 101] : List Nat)) (by decide +kernel)) ?_
   refine w_cons ?_
   obtain ⟨x25, hx25, hm⟩ := Mi.bnd hm
   obtain ⟨u26, r27, ku28⟩ := itm_T r1 hx25
   obtain ⟨x29, hx29, hm⟩ := Mi.bnd hm
   have r30 := sum_L r27 hx29
   obtain ⟨_, rfl⟩ := r30
   refine c_val (ku28 (val_var rfl) val_c) ?_
   refine w_cons ?_
   refine w_meth ?_
   obtain ⟨x31, hx31, hm⟩ := Mi.bnd hm
   obtain ⟨u32, r33, ku34⟩ := itm_T r1 hx31
   obtain ⟨x35, hx35, hm⟩ := Mi.bnd hm
   have r36 := sum_R r33 hx35
   obtain ⟨x37, hx37, hm⟩ := Mi.bnd hm
   have r38 := sum_R r36 hx37
   refine c_val (ku34 (val_var rfl) val_c) ?_
   refine meth_obj r38 (by decide +kernel) ?_
   refine w_args (va_cons (val_var rfl) (va_cons (val_var rfl) va_nil)) ?_
   obtain ⟨q39, hq39, hm⟩ := Mi.bnd hm
   refine ⟨u32, x37, x17.1, x17.2, q39, rfl, r38, hq39, fun v42 H41 c40 r43  => ?_⟩
   have r0 := Ty.ex r0 c40
   have r1 := Ty.fz r1 c40
   have c0 := c0.trans c40.none
   refine w_nil ?_
   refine e_tupl (K := K) (τ := (ySum yInt (ySum yStr (yObj C_Gate nm_Gate ty_Gate)))) (xs := ([(.inr (.inl ([103, 97, 116, 101] : List Nat))), (.inl x29), (.inr (.inr q39))] : (List (Int ⊕ (List Nat) ⊕ ((List Int)))))) (by exact Nat.le_of_ble_eq_true rfl) (.cons (sum_r (sum_l yStr_i)) (.cons (sum_l yInt_i) (.cons (sum_r (sum_r r43)) .nil))) fun p44 H48 np47 c45 r46 => ?_
   have r0 := Ty.ex r0 c45
   have r1 := Ty.fz r1 c45
   have r43 := Ty.fz r43 c45
   have c0 := c0.trans c45.none
   obtain rfl := Option.some.inj hm
   exact hQ _ _ c0 r46 
abbrev s_least_schedule : Stmt := topS 35
abbrev N_least_schedule : List Str := ["sailings", "orders", "last", "wanted", "hours", "lifts", "lifted", "index", "order", "sailing", "hour"]
theorem sc_least_schedule : FnScope ["sailings", "orders", "last", "wanted", "hours", "lifts", "lifted", "index", "order", "sailing", "hour"] ["sailings", "orders", "last"] (defScope s_least_schedule) := ⟨rfl, rfl, rfl, by decide +kernel, rfl, by decide +kernel, by decide +kernel⟩
abbrev dv_least_schedule : List V := [.int 48]
def sp_least_schedule (K : PySem.W.Frag) (C_Gate : Addr) : Sp := fun vs H Q _ => ∃ (v0 : V) (F0 : List Addr) (d0 : (List (Int × Int))) (v1 : V) (F1 : List Addr) (d1 : (List (List (Int ⊕ (List Nat) ⊕ ((List Int)))))) (d2 : Int) (r : ((Option (List Int)) × (List (Int × Int × Int)))), vs = [v0, v1, (.int d2)] ∧ (yLst (yTup (sCons yInt (sOne yInt)))).rep K H F0 v0 d0 ∧ (yLst (yTupL (ySum yInt (ySum yStr (yObj C_Gate nm_Gate ty_Gate))))).rep K H F1 v1 d1 ∧ Mi.m_least_schedule d0 d1 d2 = some r ∧ ∀ v H' F, Chg ([]) H H' → (yNd (yTup (sCons (yOpt (yLst yInt)) (sOne (yLst (yTup (sCons yInt (sCons yInt (sOne yInt))))))))).rep K H' F v r → (∀ a ∈ F, H a = none) → Q v H'
theorem ok_least_schedule (B : Bi mg) (CN : Cs K mg) (D : DfnD K mg "least_schedule" s_least_schedule dv_least_schedule) {C_Gate : Addr} (T_Gate : Tx K mg C_Gate "Gate" nm_Gate) (C_check_orders : Cal P w K mg "check_orders" ["sailings", "orders"] 2 (sp_check_orders K C_Gate)) (C_asked : Cal P w K mg "asked" ["sailings", "order", "hours", "last"] 4 (sp_asked K C_Gate)) (C_gated : Cal P w K mg "gated" ["sailings", "order"] 4 (sp_gated K C_Gate)) : CalD P w K mg "least_schedule" s_least_schedule dv_least_schedule ["sailings", "orders", "last"] 5 (sp_least_schedule K C_Gate) := by
 obtain ⟨f, fd, F, g⟩ := D.ex
 refine ⟨f, fd, g, F, fun base => okD F sc_least_schedule (fun vs H Q E h => ?_) (fun cdv A outer s H0 vs Q E hr h => ?_)⟩
 · obtain ⟨v0, F0, d0, v1, F1, d1, d2, r, rfl, r0, r1, hm, hQ⟩ := h; rfl
 ·
   obtain ⟨v0, F0, d0, v1, F1, d1, d2, r, rfl, r0, r1, hm, hQ⟩ := h
   refine ⟨_, pss_cons (ps_expr (pe_cc C_check_orders hr (pa_cons (pv 0) (pa_cons (pv 1) pa_nil))))
     (pss_cons (ps_setLc (i := 3) (own := [("order", 8)]) rfl sc_least_schedule.nd rfl rfl (sw_true rfl rfl rfl (by decide +kernel)) (pi_list (pv 1)) (blkOk_by (own := [("order", 8)]) (N := N_least_schedule) (sc := defScope s_least_schedule) (by decide +kernel)) (fun _ _ _ _ _ => (pg_name (i := 8) sc_least_schedule.nd rfl (.inl rfl))) (fun _ _ _ _ _ => pts_nil) (fun _ _ _ _ _ => (pe_cc C_gated hr (pa_cons (pv 0) (pa_cons (pv 8) pa_nil)))))
     (pss_cons (ps_set (i := 4) sc_least_schedule.nd rfl (.inl rfl) (pe_op op_rep (pe_lst (pa_cons pe_int pa_nil)) (pe_callB (cl_len (K := K)) (by rfl) B.len PySem.boot_len (pa_cons (pv 0) pa_nil))))
     (pss_cons (ps_set (i := 5) sc_least_schedule.nd rfl (.inl rfl) (pe_lst pa_nil))
     (pss_cons (ps_set (i := 6) sc_least_schedule.nd rfl (.inl rfl) pe_bl)
     (pss_cons (ps_while PassesOwn.never (pt_val (pv 6)) (pss_cons (ps_set (i := 6) sc_least_schedule.nd rfl (.inl rfl) pe_bl)
     (pss_cons (ps_for PassesOwn.never rfl (pi_enum (by rfl) B.enumerate (pa_cons (pv 3) pa_nil)) (pg_tupk (K := K) (n := 2) rfl (pgs_cons (pg_name (i := 7) sc_least_schedule.nd rfl (.inl rfl)) (pgs_cons (pg_name (i := 8) sc_least_schedule.nd rfl (.inl rfl)) pgs_nil))) (pss_cons (ps_asg (pe_cc C_asked hr (pa_cons (pv 0) (pa_cons (pv 8) (pa_cons (pv 4) (pa_cons (pv 2) pa_nil))))) (pg_tupk (K := K) (n := 2) rfl (pgs_cons (pg_name (i := 9) sc_least_schedule.nd rfl (.inl rfl)) (pgs_cons (pg_name (i := 10) sc_least_schedule.nd rfl (.inl rfl)) pgs_nil))))
     (pss_cons (ps_if (pt_cmpR op_gt (pv 10) (pe_ix (ix_l (K := K)) (pv 4) (pv 9) (fun _ _ => rfl)) (nomark _)) (pss_cons (ps_asg (pv 10) (pg_sub (pv 4) (pv 9) set_list))
     (pss_cons (ps_expr (pe_bm PySem.F.plainAttrs_list PySem.F.slot_list_append PySem.F.type_list_append mt_append (pv 5) (pa_cons (pe_tup (pa_cons (pv 9) (pa_cons (pv 10) (pa_cons (pv 7) pa_nil)))) pa_nil)))
     (pss_cons (ps_set (i := 6) sc_least_schedule.nd rfl (.inl rfl) pe_bl)
     (pss_cons (ps_if (pt_cmpR op_gt (pv 10) (pv 2) (nomark _)) (pss_cons (ps_ret (pe_tup (pa_cons pe_non (pa_cons (pv 5) pa_nil)))) pss_nil) (pss_nil))
     (pss_nil))))) (pss_nil))
     (pss_nil))))
     (pss_nil))))
     (pss_cons (ps_ret (pe_tup (pa_cons (pv 4) (pa_cons (pv 5) pa_nil)))) pss_nil)))))), ?_⟩
   have c0 : Chg ([] : List Addr) H0 H0 := Chg.refl H0
   unfold Mi.m_least_schedule at hm
   refine q_drop ?_
   refine w_call ?_
   refine w_args (va_cons (val_var rfl) (va_cons (val_var rfl) va_nil)) ?_
   obtain ⟨q4, hq4, hm⟩ := Mi.bnd hm
   refine ⟨v0, F0, d0, v1, F1, d1, q4, rfl, r0, r1, hq4, fun H6 c5  => ?_⟩
   have r0 := Ty.ex r0 c5
   have r1 := Ty.ex r1 c5
   have c0 := c0.trans c5.none
   refine q_asg ?_
   refine w_lc ?_
   refine w_iList ?_
   refine c_val (val_var rfl) ?_
   obtain ⟨e7, he7, hm⟩ := Mi.bnd hm
   refine kc_lst (K := K) (τ := (yTupL (ySum yInt (ySum yStr (yObj C_Gate nm_Gate ty_Gate))))) r1 (fun D9 i H' => ∃ (s8 : (List (List (Int ⊕ (List Nat) ⊕ ((List Int)))))), Chg ([] : List Addr) H0 H' ∧ (yLst (yTup (sCons yInt (sOne yInt)))).rep K H' F0 v0 d0 ∧ (yLst (yTupL (ySum yInt (ySum yStr (yObj C_Gate nm_Gate ty_Gate))))).rep K H' F1 v1 d1 ∧ (yLst (yTupL (ySum yInt (ySum yStr (yObj C_Gate nm_Gate ty_Gate))))).rep K H' [D9] (.ref D9) s8 ∧ Dj F0 [D9] ∧ Dj F1 [D9] ∧ (∀ a ∈ [D9], H0 a = none) ∧ Mi.forN (Mi.m_least_schedule_b1 d0) s8 (List.drop i d1) = some e7) (fun D9 H17 np16 c15 r10 => ⟨([] : (List (List (Int ⊕ (List Nat) ⊕ ((List Int)))))), c0.trans c15.none, (Ty.ex r0 c15), (Ty.ex r1 c15), r10, Ty.nin r0 np16, Ty.nin r1 np16, one_fresh (c0.dom D9 np16), he7⟩) (fun D9 i H' hp => by obtain ⟨s8, c0, r0, r1, r10, d11, d12, n14, _⟩ := hp; exact r1) (fun D9 i20 x19 u22 H21 hx18 r23 hp => ?_) (fun D9 H' np16 hp => ?_)
   ·
     obtain ⟨s8, c0, r0, r1, r10, d11, d12, n14, hle7⟩ := hp
     obtain ⟨_, hbe7, hle7⟩ := Mi.forN_go hle7 hx18
     unfold Mi.m_least_schedule_b1 at hbe7
     refine g_name (σ' := [some v0, some v1, some (.int d2), none, none, none, none, none, some u22, none, none]) rfl ?_
     refine ⟨rfl, ?_⟩
     refine w_yes ?_
     refine iteT ?_
     refine w_call ?_
     refine w_args (va_cons (val_var rfl) (va_cons (val_var rfl) va_nil)) ?_
     obtain ⟨q28, hq28, hbe7⟩ := Mi.bnd hbe7
     refine ⟨v0, F0, d0, u22, x19, q28, rfl, r0, r23, hq28, fun v31 H30 c29 r32  => ?_⟩
     have r0 := Ty.ex r0 c29
     have r1 := Ty.ex r1 c29
     have r23 := Ty.fz r23 c29
     have r10 := Ty.ex r10 c29
     have c0 := c0.trans c29.none
     obtain ⟨x33, hx33, hbe7⟩ := Mi.bnd hbe7
     refine e_app r10 r32 hx33 fun H35 c34 r10 => ?_
     have r0 := Ty.chg r0 c34 d11
     have r1 := Ty.chg r1 c34 d12
     have r23 := Ty.fz r23 c34
     have c0 := c0.join c34 (fun a h => .inr (n14 a h))
     obtain rfl := Option.some.inj hbe7
     exact ⟨x33, c0, r0, r1, r10, d11, d12, n14, hle7⟩
   obtain ⟨s8, c0, r0, r1, r10, d11, d12, n14, hle7⟩ := hp
   obtain rfl := Mi.forN_end hle7
   refine g_name (σ' := [some v0, some v1, some (.int d2), some (.ref D9), none, none, none, none, none, none, none]) rfl ?_
   refine q_asg ?_
   refine w_op ?_
   refine w_lst ?_
   refine w_args (va_cons val_c va_nil) ?_
   refine e_lst (K := K) (τ := yInt) (by exact Nat.le_of_ble_eq_true rfl) (.cons yInt_i .nil) fun p36 H40 np39 c37 r38 => ?_
   have d41 : Dj F0 [p36] := Ty.nin r0 np39
   have d42 : Dj F1 [p36] := Ty.nin r1 np39
   have d43 : Dj [D9] [p36] := Ty.nin r10 np39
   have n44 : ∀ a ∈ [p36], H0 a = none := one_fresh (c0.dom p36 np39)
   have r0 := Ty.ex r0 c37
   have r1 := Ty.ex r1 c37
   have r10 := Ty.ex r10 c37
   have c0 := c0.trans c37.none
   refine c_val (val_lenL r0 (val_var rfl)) ?_
   obtain ⟨x45, hx45, hm⟩ := Mi.bnd hm
   refine w_rep r38 hx45 fun p46 H50 np49 c47 r48 => ?_
   have d51 : Dj F0 [p46] := Ty.nin r0 np49
   have d52 : Dj F1 [p46] := Ty.nin r1 np49
   have d53 : Dj [D9] [p46] := Ty.nin r10 np49
   have d54 : Dj [p36] [p46] := Ty.nin r38 np49
   have n55 : ∀ a ∈ [p46], H0 a = none := one_fresh (c0.dom p46 np49)
   have r0 := Ty.ex r0 c47
   have r1 := Ty.ex r1 c47
   have r10 := Ty.ex r10 c47
   have r38 := Ty.ex r38 c47
   have c0 := c0.trans c47.none
   refine g_name (σ' := [some v0, some v1, some (.int d2), some (.ref D9), some (.ref p46), none, none, none, none, none, none]) rfl ?_
   refine q_asg ?_
   refine w_lst ?_
   refine w_args va_nil ?_
   refine e_lst (K := K) (τ := (yTup (sCons yInt (sCons yInt (sOne yInt))))) (by exact Nat.le_of_ble_eq_true rfl) .nil fun p56 H60 np59 c57 r58 => ?_
   have d61 : Dj F0 [p56] := Ty.nin r0 np59
   have d62 : Dj F1 [p56] := Ty.nin r1 np59
   have d63 : Dj [D9] [p56] := Ty.nin r10 np59
   have d64 : Dj [p46] [p56] := Ty.nin r48 np59
   have n65 : ∀ a ∈ [p56], H0 a = none := one_fresh (c0.dom p56 np59)
   have r0 := Ty.ex r0 c57
   have r1 := Ty.ex r1 c57
   have r10 := Ty.ex r10 c57
   have r48 := Ty.ex r48 c57
   have c0 := c0.trans c57.none
   refine g_name (σ' := [some v0, some v1, some (.int d2), some (.ref D9), some (.ref p46), some (.ref p56), none, none, none, none, none]) rfl ?_
   obtain ⟨lifted66, hlifted66, hm⟩ := Mi.letE hm
   refine q_setE val_c (congrArg V.bl hlifted66) (σ' := [some v0, some v1, some (.int d2), some (.ref D9), some (.ref p46), some (.ref p56), some (.bl lifted66), none, none, none, none]) rfl ?_
   refine q_while ?_
   obtain ⟨e67, he67, hm⟩ := Mi.bnd hm
   refine l_while (fun m σ' H' => ∃ (s68 : ((List Int) × (List (Int × Int × Int)) × Bool)) (y69 : Option V) (y70 : Option V) (y71 : Option V) (y72 : Option V), σ' = [some v0, some v1, some (.int d2), some (.ref D9), some (.ref p46), some (.ref p56), some (.bl s68.2.2), y69, y70, y71, y72] ∧ Chg ([] : List Addr) H0 H' ∧ (yLst (yTup (sCons yInt (sOne yInt)))).rep K H' F0 v0 d0 ∧ (yLst (yTupL (ySum yInt (ySum yStr (yObj C_Gate nm_Gate ty_Gate))))).rep K H' F1 v1 d1 ∧ (yLst (yTupL (ySum yInt (ySum yStr (yObj C_Gate nm_Gate ty_Gate))))).rep K H' [D9] (.ref D9) s8 ∧ (yLst yInt).rep K H' [p46] (.ref p46) s68.1 ∧ (yLst (yTup (sCons yInt (sCons yInt (sOne yInt))))).rep K H' [p56] (.ref p56) s68.2.1 ∧ Mi.whileR (Mi.m_least_schedule_c2) (Mi.m_least_schedule_b2 d0 d2 s8) m s68 = some e67) 5000 ⟨(x45, ([] : (List (Int × Int × Int))), lifted66), none, none, none, none, rfl, c0, r0, r1, r10, r48, r58, he67⟩ (fun m73 σ' H' hp => ?_)
   obtain ⟨s68, y69, y70, y71, y72, rfl, c0, r0, r1, r10, r48, r58, hle67⟩ := hp
   obtain ⟨n74, b75, rfl, hce67, hle67⟩ := Mi.whileR_go hle67
   unfold Mi.m_least_schedule_c2 at hce67
   obtain rfl := Option.some.inj hce67
   refine c_ans (ans_B (val_var rfl)) ?_
   refine c_if (fun hb => ?_) (fun hb => ?_)
   ·
     replace hle67 := Mi.ifT hb hle67
     obtain ⟨o76, hbe67, hore67⟩ := Mi.whileR_step hle67
     unfold Mi.m_least_schedule_b2 at hbe67
     refine ⟨fun σ' H' => ∃ (s68 : ((List Int) × (List (Int × Int × Int)) × Bool)) (y69 : Option V) (y70 : Option V) (y71 : Option V) (y72 : Option V), σ' = [some v0, some v1, some (.int d2), some (.ref D9), some (.ref p46), some (.ref p56), some (.bl s68.2.2), y69, y70, y71, y72] ∧ Chg ([] : List Addr) H0 H' ∧ (yLst (yTup (sCons yInt (sOne yInt)))).rep K H' F0 v0 d0 ∧ (yLst (yTupL (ySum yInt (ySum yStr (yObj C_Gate nm_Gate ty_Gate))))).rep K H' F1 v1 d1 ∧ (yLst (yTupL (ySum yInt (ySum yStr (yObj C_Gate nm_Gate ty_Gate))))).rep K H' [D9] (.ref D9) s8 ∧ (yLst yInt).rep K H' [p46] (.ref p46) s68.1 ∧ (yLst (yTup (sCons yInt (sCons yInt (sOne yInt))))).rep K H' [p56] (.ref p56) s68.2.1 ∧ Mi.whileR (Mi.m_least_schedule_c2) (Mi.m_least_schedule_b2 d0 d2 s8) n74 s68 = some e67, fun σ2 H2 hq => ⟨n74, Nat.lt_succ_self _, hq⟩, ?_⟩
     obtain ⟨lifted77, hlifted77, hbe67⟩ := Mi.letE hbe67
     refine q_setE val_c (congrArg V.bl hlifted77) (σ' := [some v0, some v1, some (.int d2), some (.ref D9), some (.ref p46), some (.ref p56), some (.bl lifted77), y69, y70, y71, y72]) rfl ?_
     refine q_for ?_
     refine w_iEnum ?_
     refine w_args (va_cons (val_var rfl) va_nil) ?_
     obtain ⟨e78, he78, hbe67⟩ := Mi.bnd hbe67
     refine l_enum r10 (fun i σ' H' => ∃ (s79 : ((List Int) × (List (Int × Int × Int)) × Bool)) (y80 : Option V) (y81 : Option V) (y82 : Option V) (y83 : Option V), σ' = [some v0, some v1, some (.int d2), some (.ref D9), some (.ref p46), some (.ref p56), some (.bl s79.2.2), y80, y81, y82, y83] ∧ Chg ([] : List Addr) H0 H' ∧ (yLst (yTup (sCons yInt (sOne yInt)))).rep K H' F0 v0 d0 ∧ (yLst (yTupL (ySum yInt (ySum yStr (yObj C_Gate nm_Gate ty_Gate))))).rep K H' F1 v1 d1 ∧ (yLst (yTupL (ySum yInt (ySum yStr (yObj C_Gate nm_Gate ty_Gate))))).rep K H' [D9] (.ref D9) s8 ∧ (yLst yInt).rep K H' [p46] (.ref p46) s79.1 ∧ (yLst (yTup (sCons yInt (sCons yInt (sOne yInt))))).rep K H' [p56] (.ref p56) s79.2.1 ∧ Mi.forR (Mi.m_least_schedule_b3 d0 d2) s79 (List.drop i (Mi.enumF 0 s8)) = some e78) ⟨(s68.1, s68.2.1, lifted77), y69, y70, y71, y72, rfl, c0, r0, r1, r10, r48, r58, he78⟩ (fun i σ' H' hp => by obtain ⟨s79, y80, y81, y82, y83, rfl, c0, r0, r1, r10, r48, r58, _⟩ := hp; exact r10) (fun i86 x85 u87 σ' H' H90 hx84 c89 r88 hp => ?_) (fun σ' H' hp => ?_)
     ·
       obtain ⟨s79, y80, y81, y82, y83, rfl, c0, r0, r1, r10, r48, r58, hle78⟩ := hp
       obtain ⟨o91, hbe78, hore78⟩ := Mi.forR_go hle78 hx84
       unfold Mi.m_least_schedule_b3 at hbe78
       have r0 := Ty.ex r0 c89
       have r1 := Ty.ex r1 c89
       have r10 := Ty.ex r10 c89
       have r48 := Ty.ex r48 c89
       have r58 := Ty.ex r58 c89
       have c0 := c0.trans c89.none
       refine st_eq (σ' := [some v0, some v1, some (.int d2), some (.ref D9), some (.ref p46), some (.ref p56), some (.bl s79.2.2), some (.int x85.1), some u87, y82, y83]) rfl ?_
       refine q_asg ?_
       refine w_call ?_
       refine w_args (va_cons (val_var rfl) (va_cons (val_var rfl) (va_cons (val_var rfl) (va_cons (val_var rfl) va_nil)))) ?_
       obtain ⟨q92, hq92, hbe78⟩ := Mi.bnd hbe78
       refine ⟨v0, F0, d0, u87, x85.2, (.ref p46), [p46], s79.1, d2, q92, rfl, r0, r88, r48, hq92, fun v95 H94 c93 r96  => ?_⟩
       have r0 := Ty.ex r0 c93
       have r1 := Ty.ex r1 c93
       have r10 := Ty.ex r10 c93
       have r48 := Ty.ex r48 c93
       have r58 := Ty.ex r58 c93
       have r88 := Ty.fz r88 c93
       have c0 := c0.trans c93.none
       refine g_tup2 r96 fun u97 u98 r99 r100 => ?_
       obtain ⟨_, rfl⟩ := r99
       obtain ⟨_, rfl⟩ := r100
       refine g_names (σ' := [some v0, some v1, some (.int d2), some (.ref D9), some (.ref p46), some (.ref p56), some (.bl s79.2.2), some (.int x85.1), some u87, some (.int q92.1), some (.int q92.2)]) rfl ?_
       obtain ⟨s101, hs101, hbe78⟩ := Mi.bnd hbe78
       refine s_join (R := fun σ' H' => ∃ (s102 : ((List Int) × (List (Int × Int × Int)) × Bool)), s101 = .inr s102 ∧ σ' = [some v0, some v1, some (.int d2), some (.ref D9), some (.ref p46), some (.ref p56), some (.bl s102.2.2), some (.int x85.1), some u87, some (.int q92.1), some (.int q92.2)] ∧ Chg ([] : List Addr) H0 H' ∧ (yLst (yTup (sCons yInt (sOne yInt)))).rep K H' F0 v0 d0 ∧ (yLst (yTupL (ySum yInt (ySum yStr (yObj C_Gate nm_Gate ty_Gate))))).rep K H' F1 v1 d1 ∧ (yLst (yTupL (ySum yInt (ySum yStr (yObj C_Gate nm_Gate ty_Gate))))).rep K H' [D9] (.ref D9) s8 ∧ (yLst yInt).rep K H' [p46] (.ref p46) s102.1 ∧ (yLst (yTup (sCons yInt (sCons yInt (sOne yInt))))).rep K H' [p56] (.ref p56) s102.2.1 ∧ (yTupL (ySum yInt (ySum yStr (yObj C_Gate nm_Gate ty_Gate)))).rep K H' [] u87 x85.2) (fun nx kx => ?_) (fun σ' H' hj => ?_)
       ·
         obtain ⟨x103, hx103, hs101⟩ := Mi.bnd hs101
         refine s_if (ans_t (val_gt (val_var rfl) (itm_LI r48 hx103 (val_var rfl) (val_var rfl)))) (fun hb => ?_) (fun hb => ?_)
         ·
           replace hs101 := Mi.ifT hb hs101
           refine q_asg ?_
           refine c_val (val_var rfl) ?_
           refine w_gsub ?_
           refine c_val (val_var rfl) ?_
           refine c_val (val_var rfl) ?_
           obtain ⟨x104, hx104, hs101⟩ := Mi.bnd hs101
           refine m_set r48 yInt_i hx104 fun H106 c105 r48 => ?_
           have r0 := Ty.chg r0 c105 d51
           have r1 := Ty.chg r1 c105 d52
           have r10 := Ty.chg r10 c105 d53
           have r58 := Ty.chg r58 c105 d64.symm
           have r88 := Ty.fz r88 c105
           have c0 := c0.join c105 (fun a h => .inr (n55 a h))
           refine q_drop (w_bm (c_val (val_var rfl) ⟨tyv_lst r58, ?_⟩))
           refine w_cons ?_
           refine w_tup ?_
           refine w_args (va_cons (val_var rfl) (va_cons (val_var rfl) (va_cons (val_var rfl) va_nil))) ?_
           refine e_tup (K := K) (ty := (sCons yInt (sCons yInt (sOne yInt)))) (F := []) (d := (q92.1, q92.2, x85.1)) (by exact Nat.le_of_ble_eq_true rfl) ⟨_, _, _, _, rfl, rfl, yInt_i, ⟨_, _, _, _, rfl, rfl, yInt_i, ⟨_, rfl, yInt_i⟩⟩⟩ fun p107 H111 np110 c108 r109  => ?_
           have r0 := Ty.ex r0 c108
           have r1 := Ty.ex r1 c108
           have r10 := Ty.ex r10 c108
           have r48 := Ty.ex r48 c108
           have r58 := Ty.ex r58 c108
           have r88 := Ty.fz r88 c108
           have c0 := c0.trans c108.none
           refine w_nil ?_
           obtain ⟨x112, hx112, hs101⟩ := Mi.bnd hs101
           refine m_app r58 r109 hx112 fun H114 c113 r58 => ?_
           have r0 := Ty.chg r0 c113 d61
           have r1 := Ty.chg r1 c113 d62
           have r10 := Ty.chg r10 c113 d63
           have r48 := Ty.chg r48 c113 d64
           have r88 := Ty.fz r88 c113
           have c0 := c0.join c113 (fun a h => .inr (n65 a h))
           obtain ⟨lifted115, hlifted115, hs101⟩ := Mi.letE hs101
           refine q_setE val_c (congrArg V.bl hlifted115) (σ' := [some v0, some v1, some (.int d2), some (.ref D9), some (.ref p46), some (.ref p56), some (.bl lifted115), some (.int x85.1), some u87, some (.int q92.1), some (.int q92.2)]) rfl ?_
           refine q_if (ans_t (val_gt (val_var rfl) (val_var rfl))) (fun hb => ?_) (fun hb => ?_)
           ·
             replace hs101 := Mi.ifT hb hs101
             refine q_ret ?_
             refine w_tup ?_
             refine w_args (va_cons val_c (va_cons (val_var rfl) va_nil)) ?_
             refine e_tup (K := K) (ty := (sCons (yOpt (yLst yInt)) (sOne (yLst (yTup (sCons yInt (sCons yInt (sOne yInt)))))))) (F := ([] ++ [p56])) (d := ((none : (Option (List Int))), x112)) (by exact Nat.le_of_ble_eq_true rfl) ⟨_, _, _, _, rfl, rfl, opt_n, ⟨_, rfl, r58⟩⟩ fun p116 H120 np119 c117 r118  => ?_
             have r0 := Ty.ex r0 c117
             have r1 := Ty.ex r1 c117
             have r10 := Ty.ex r10 c117
             have r48 := Ty.ex r48 c117
             have r58 := Ty.ex r58 c117
             have r88 := Ty.fz r88 c117
             have c0 := c0.trans c117.none
             have d121 : Dj ([] ++ [p56]) F0 := (Dj.app (Dj.nil) (d61.symm))
             have d122 : Dj ([] ++ [p56]) F1 := (Dj.app (Dj.nil) (d62.symm))
             have d123 : Dj ([] ++ [p56]) [D9] := (Dj.app (Dj.nil) (d63.symm))
             have d124 : Dj ([] ++ [p56]) [p46] := (Dj.app (Dj.nil) (d64.symm))
             obtain rfl := Option.some.inj hs101
             obtain rfl := Option.some.inj (Mi.orL_inl hbe78)
             obtain rfl := Mi.or_inl hore78
             obtain rfl := Option.some.inj (Mi.orL_inl hbe67)
             obtain rfl := Mi.or_inl hore67
             obtain rfl := Option.some.inj (Mi.orR_inl hm)
             exact hQ _ _ _ c0 ⟨r118, (nd_app List.nodup_nil (lst_nd r58) Dj.nil)⟩ (app_fresh nil_fresh n65) 
           replace hs101 := Mi.ifF hb hs101
           refine w_fall ?_
           refine w_nextJ ?_
           obtain rfl := Option.some.inj hs101
           exact kx _ _ ⟨_, rfl, rfl, c0, r0, r1, r10, r48, r58, r88⟩
         ·
           replace hs101 := Mi.ifF hb hs101
           refine w_nextJ ?_
           obtain rfl := Option.some.inj hs101
           exact kx _ _ ⟨_, rfl, rfl, c0, r0, r1, r10, r48, r58, r88⟩
       obtain ⟨s102, rfl, rfl, c0, r0, r1, r10, r48, r58, r88⟩ := hj
       replace hbe78 := Mi.orL_inr hbe78
       refine w_nextJ ?_
       obtain rfl := Option.some.inj hbe78
       replace hore78 := Mi.or_inr hore78
       exact ⟨_, (some (.int x85.1)), (some u87), (some (.int q92.1)), (some (.int q92.2)), rfl, c0, r0, r1, r10, r48, r58, hore78⟩
     obtain ⟨s79, y80, y81, y82, y83, rfl, c0, r0, r1, r10, r48, r58, hle78⟩ := hp
     obtain rfl := Mi.forR_end hle78
     replace hbe67 := Mi.orL_inr hbe67
     refine w_nextJ ?_
     obtain rfl := Option.some.inj hbe67
     replace hore67 := Mi.or_inr hore67
     exact ⟨_, y80, y81, y82, y83, rfl, c0, r0, r1, r10, r48, r58, hore67⟩
   replace hle67 := Mi.ifF hb hle67
   obtain rfl := Option.some.inj hle67
   replace hm := Mi.orR_inr hm
   refine q_ret ?_
   refine w_tup ?_
   refine w_args (va_cons (val_var rfl) (va_cons (val_var rfl) va_nil)) ?_
   refine e_tup (K := K) (ty := (sCons (yOpt (yLst yInt)) (sOne (yLst (yTup (sCons yInt (sCons yInt (sOne yInt)))))))) (F := ([p46] ++ [p56])) (d := ((some s68.1), s68.2.1)) (by exact Nat.le_of_ble_eq_true rfl) ⟨_, _, _, _, rfl, rfl, (opt_i (nn_lst r48) r48), ⟨_, rfl, r58⟩⟩ fun p125 H129 np128 c126 r127  => ?_
   have r0 := Ty.ex r0 c126
   have r1 := Ty.ex r1 c126
   have r10 := Ty.ex r10 c126
   have r48 := Ty.ex r48 c126
   have r58 := Ty.ex r58 c126
   have c0 := c0.trans c126.none
   have d130 : Dj ([p46] ++ [p56]) F0 := (Dj.app (d51.symm) (d61.symm))
   have d131 : Dj ([p46] ++ [p56]) F1 := (Dj.app (d52.symm) (d62.symm))
   have d132 : Dj ([p46] ++ [p56]) [D9] := (Dj.app (d53.symm) (d63.symm))
   obtain rfl := Option.some.inj hm
   exact hQ _ _ _ c0 ⟨r127, (nd_app (optlst_nd (opt_i (nn_lst r48) r48)) (lst_nd r58) (d64))⟩ (app_fresh n55 n65) 
abbrev s_least_schedule_x : Stmt := topS 35
abbrev N_least_schedule_x : List Str := ["sailings", "orders", "last", "wanted", "hours", "lifts", "lifted", "index", "order", "sailing", "hour"]
theorem sc_least_schedule_x : FnScope ["sailings", "orders", "last", "wanted", "hours", "lifts", "lifted", "index", "order", "sailing", "hour"] ["sailings", "orders", "last"] (defScope s_least_schedule_x) := ⟨rfl, rfl, rfl, by decide +kernel, rfl, by decide +kernel, by decide +kernel⟩
abbrev dv_least_schedule_x : List V := [.int 48]
def sp_least_schedule_x (K : PySem.W.Frag) (C_Gate : Addr) : Sp := fun vs H Q E => ∃ (v0 : V) (F0 : List Addr) (d0 : (List (Int × Int))) (v1 : V) (F1 : List Addr) (d1 : (List (List (Int ⊕ (List Nat) ⊕ ((List Int)))))) (d2 : Int) (r : (Int ⊕ ((Option (List Int)) × (List (Int × Int × Int))))), vs = [v0, v1, (.int d2)] ∧ (yLst (yTup (sCons yInt (sOne yInt)))).rep K H F0 v0 d0 ∧ (yLst (yTupL (ySum yInt (ySum yStr (yObj C_Gate nm_Gate ty_Gate))))).rep K H F1 v1 d1 ∧ Mi.m_least_schedule_x d0 d1 d2 = some r ∧ (∀ y, r = .inl y → ∀ d H', Chg ([]) H H' → H' d = none → E (.ref (He.ga K "InvalidOrder")) (some d) (upd H' d (.xd [(("index" : Str), (.int y))]))) ∧ ∀ ra, r = .inr ra → ∀ v H' F, Chg ([]) H H' → (yNd (yTup (sCons (yOpt (yLst yInt)) (sOne (yLst (yTup (sCons yInt (sCons yInt (sOne yInt))))))))).rep K H' F v ra → (∀ a ∈ F, H a = none) → Q v H'
theorem ok_least_schedule_x (B : Bi mg) (CN : Cs K mg) (D : DfnD K mg "least_schedule" s_least_schedule_x dv_least_schedule_x) {C_Gate : Addr} (T_Gate : Tx K mg C_Gate "Gate" nm_Gate) (C_check_orders_x : CalXN P w K mg "check_orders" ["sailings", "orders"] 2 (sp_check_orders_x K C_Gate)) (C_asked : Cal P w K mg "asked" ["sailings", "order", "hours", "last"] 4 (sp_asked K C_Gate)) (C_gated : Cal P w K mg "gated" ["sailings", "order"] 4 (sp_gated K C_Gate)) : CalDN P w K mg "least_schedule" s_least_schedule_x dv_least_schedule_x ["sailings", "orders", "last"] 5 (sp_least_schedule_x K C_Gate) := by
 obtain ⟨f, fd, F, g⟩ := D.ex
 refine ⟨f, fd, g, F, fun base => FunD.ok (CX := L2N.CX P w) F sc_least_schedule_x (fun vs H Q E h => ?_) (fun cdv A outer s H0 vs Q E hr h => ?_)⟩
 · obtain ⟨v0, F0, d0, v1, F1, d1, d2, r, rfl, r0, r1, hm, hE, hQ⟩ := h; rfl
 ·
   obtain ⟨v0, F0, d0, v1, F1, d1, d2, r, rfl, r0, r1, hm, hE, hQ⟩ := h
   refine ⟨_, pss_cons (ps_expr (pe_ccSN C_check_orders_x hr (fun σ => L2N.passAt (L2N.takes_of rfl rfl rfl rfl) σ) (pa_cons (pv 0) (pa_cons (pv 1) pa_nil))))
     (pss_cons (ps_setLc (i := 3) (own := [("order", 8)]) rfl sc_least_schedule_x.nd rfl rfl (sw_true rfl rfl rfl (by decide +kernel)) (pi_list (pv 1)) (blkOk_by (own := [("order", 8)]) (N := N_least_schedule_x) (sc := defScope s_least_schedule_x) (by decide +kernel)) (fun _ _ _ _ _ => (pg_name (i := 8) sc_least_schedule_x.nd rfl (.inl rfl))) (fun _ _ _ _ _ => pts_nil) (fun _ _ _ _ _ => (pe_cc C_gated hr (pa_cons (pv 0) (pa_cons (pv 8) pa_nil)))))
     (pss_cons (ps_set (i := 4) sc_least_schedule_x.nd rfl (.inl rfl) (pe_op op_rep (pe_lst (pa_cons pe_int pa_nil)) (pe_callB (cl_len (K := K)) (by rfl) B.len PySem.boot_len (pa_cons (pv 0) pa_nil))))
     (pss_cons (ps_set (i := 5) sc_least_schedule_x.nd rfl (.inl rfl) (pe_lst pa_nil))
     (pss_cons (ps_set (i := 6) sc_least_schedule_x.nd rfl (.inl rfl) pe_bl)
     (pss_cons (ps_while (passes_of rfl) (pt_val (pv 6)) (pss_cons (ps_set (i := 6) sc_least_schedule_x.nd rfl (.inl rfl) pe_bl)
     (pss_cons (ps_for (passes_of rfl) rfl (pi_enum (by rfl) B.enumerate (pa_cons (pv 3) pa_nil)) (pg_tupk (K := K) (n := 2) rfl (pgs_cons (pg_name (i := 7) sc_least_schedule_x.nd rfl (.inl rfl)) (pgs_cons (pg_name (i := 8) sc_least_schedule_x.nd rfl (.inl rfl)) pgs_nil))) (pss_cons (ps_asg (pe_cc C_asked hr (pa_cons (pv 0) (pa_cons (pv 8) (pa_cons (pv 4) (pa_cons (pv 2) pa_nil))))) (pg_tupk (K := K) (n := 2) rfl (pgs_cons (pg_name (i := 9) sc_least_schedule_x.nd rfl (.inl rfl)) (pgs_cons (pg_name (i := 10) sc_least_schedule_x.nd rfl (.inl rfl)) pgs_nil))))
     (pss_cons (ps_if (pt_cmpR op_gt (pv 10) (pe_ix (ix_l (K := K)) (pv 4) (pv 9) (fun _ _ => rfl)) (nomark _)) (pss_cons (ps_asg (pv 10) (pg_sub (pv 4) (pv 9) set_list))
     (pss_cons (ps_expr (pe_bm PySem.F.plainAttrs_list PySem.F.slot_list_append PySem.F.type_list_append mt_append (pv 5) (pa_cons (pe_tup (pa_cons (pv 9) (pa_cons (pv 10) (pa_cons (pv 7) pa_nil)))) pa_nil)))
     (pss_cons (ps_set (i := 6) sc_least_schedule_x.nd rfl (.inl rfl) pe_bl)
     (pss_cons (ps_if (pt_cmpR op_gt (pv 10) (pv 2) (nomark _)) (pss_cons (ps_ret (pe_tup (pa_cons pe_non (pa_cons (pv 5) pa_nil)))) pss_nil) (pss_nil))
     (pss_nil))))) (pss_nil))
     (pss_nil))))
     (pss_nil))))
     (pss_cons (ps_ret (pe_tup (pa_cons (pv 4) (pa_cons (pv 5) pa_nil)))) pss_nil)))))), ?_⟩
   have c0 : Chg ([] : List Addr) H0 H0 := Chg.refl H0
   unfold Mi.m_least_schedule_x at hm
   refine q_drop ?_
   refine w_callS ?_
   refine w_args (va_cons (val_var rfl) (va_cons (val_var rfl) va_nil)) ?_
   obtain ⟨q4, hq4, hm⟩ := Mi.bnd hm
   refine ⟨v0, F0, d0, v1, F1, d1, q4, rfl, r0, r1, hq4, fun y7 yh8 d9 H14 c13 nn10 => ?_, fun q11 hqv12 => fun H6 c5  => ?_⟩
   ·
     subst yh8
     replace hm := Mi.tryL hm
     have r0 := Ty.ex r0 c13
     have r1 := Ty.ex r1 c13
     have c0 := c0.trans c13.none
     obtain rfl := Option.some.inj hm
     exact hE _ rfl d9 _ c0 nn10
   subst hqv12
   replace hm := Mi.tryR hm
   have r0 := Ty.ex r0 c5
   have r1 := Ty.ex r1 c5
   have c0 := c0.trans c5.none
   refine q_asg ?_
   refine w_lc ?_
   refine w_iList ?_
   refine c_val (val_var rfl) ?_
   obtain ⟨e15, he15, hm⟩ := Mi.bnd hm
   refine kc_lst (K := K) (τ := (yTupL (ySum yInt (ySum yStr (yObj C_Gate nm_Gate ty_Gate))))) r1 (fun D17 i H' => ∃ (s16 : (List (List (Int ⊕ (List Nat) ⊕ ((List Int)))))), Chg ([] : List Addr) H0 H' ∧ (yLst (yTup (sCons yInt (sOne yInt)))).rep K H' F0 v0 d0 ∧ (yLst (yTupL (ySum yInt (ySum yStr (yObj C_Gate nm_Gate ty_Gate))))).rep K H' F1 v1 d1 ∧ (yLst (yTupL (ySum yInt (ySum yStr (yObj C_Gate nm_Gate ty_Gate))))).rep K H' [D17] (.ref D17) s16 ∧ Dj F0 [D17] ∧ Dj F1 [D17] ∧ (∀ a ∈ [D17], H0 a = none) ∧ Mi.forN (Mi.m_least_schedule_x_b1 d0) s16 (List.drop i d1) = some e15) (fun D17 H25 np24 c23 r18 => ⟨([] : (List (List (Int ⊕ (List Nat) ⊕ ((List Int)))))), c0.trans c23.none, (Ty.ex r0 c23), (Ty.ex r1 c23), r18, Ty.nin r0 np24, Ty.nin r1 np24, one_fresh (c0.dom D17 np24), he15⟩) (fun D17 i H' hp => by obtain ⟨s16, c0, r0, r1, r18, d19, d20, n22, _⟩ := hp; exact r1) (fun D17 i28 x27 u30 H29 hx26 r31 hp => ?_) (fun D17 H' np24 hp => ?_)
   ·
     obtain ⟨s16, c0, r0, r1, r18, d19, d20, n22, hle15⟩ := hp
     obtain ⟨_, hbe15, hle15⟩ := Mi.forN_go hle15 hx26
     unfold Mi.m_least_schedule_x_b1 at hbe15
     refine g_name (σ' := [some v0, some v1, some (.int d2), none, none, none, none, none, some u30, none, none]) rfl ?_
     refine ⟨rfl, ?_⟩
     refine w_yes ?_
     refine iteT ?_
     refine w_call ?_
     refine w_args (va_cons (val_var rfl) (va_cons (val_var rfl) va_nil)) ?_
     obtain ⟨q36, hq36, hbe15⟩ := Mi.bnd hbe15
     refine ⟨v0, F0, d0, u30, x27, q36, rfl, r0, r31, hq36, fun v39 H38 c37 r40  => ?_⟩
     have r0 := Ty.ex r0 c37
     have r1 := Ty.ex r1 c37
     have r31 := Ty.fz r31 c37
     have r18 := Ty.ex r18 c37
     have c0 := c0.trans c37.none
     obtain ⟨x41, hx41, hbe15⟩ := Mi.bnd hbe15
     refine e_app r18 r40 hx41 fun H43 c42 r18 => ?_
     have r0 := Ty.chg r0 c42 d19
     have r1 := Ty.chg r1 c42 d20
     have r31 := Ty.fz r31 c42
     have c0 := c0.join c42 (fun a h => .inr (n22 a h))
     obtain rfl := Option.some.inj hbe15
     exact ⟨x41, c0, r0, r1, r18, d19, d20, n22, hle15⟩
   obtain ⟨s16, c0, r0, r1, r18, d19, d20, n22, hle15⟩ := hp
   obtain rfl := Mi.forN_end hle15
   refine g_name (σ' := [some v0, some v1, some (.int d2), some (.ref D17), none, none, none, none, none, none, none]) rfl ?_
   refine q_asg ?_
   refine w_op ?_
   refine w_lst ?_
   refine w_args (va_cons val_c va_nil) ?_
   refine e_lst (K := K) (τ := yInt) (by exact Nat.le_of_ble_eq_true rfl) (.cons yInt_i .nil) fun p44 H48 np47 c45 r46 => ?_
   have d49 : Dj F0 [p44] := Ty.nin r0 np47
   have d50 : Dj F1 [p44] := Ty.nin r1 np47
   have d51 : Dj [D17] [p44] := Ty.nin r18 np47
   have n52 : ∀ a ∈ [p44], H0 a = none := one_fresh (c0.dom p44 np47)
   have r0 := Ty.ex r0 c45
   have r1 := Ty.ex r1 c45
   have r18 := Ty.ex r18 c45
   have c0 := c0.trans c45.none
   refine c_val (val_lenL r0 (val_var rfl)) ?_
   obtain ⟨x53, hx53, hm⟩ := Mi.bnd hm
   refine w_rep r46 hx53 fun p54 H58 np57 c55 r56 => ?_
   have d59 : Dj F0 [p54] := Ty.nin r0 np57
   have d60 : Dj F1 [p54] := Ty.nin r1 np57
   have d61 : Dj [D17] [p54] := Ty.nin r18 np57
   have d62 : Dj [p44] [p54] := Ty.nin r46 np57
   have n63 : ∀ a ∈ [p54], H0 a = none := one_fresh (c0.dom p54 np57)
   have r0 := Ty.ex r0 c55
   have r1 := Ty.ex r1 c55
   have r18 := Ty.ex r18 c55
   have r46 := Ty.ex r46 c55
   have c0 := c0.trans c55.none
   refine g_name (σ' := [some v0, some v1, some (.int d2), some (.ref D17), some (.ref p54), none, none, none, none, none, none]) rfl ?_
   refine q_asg ?_
   refine w_lst ?_
   refine w_args va_nil ?_
   refine e_lst (K := K) (τ := (yTup (sCons yInt (sCons yInt (sOne yInt))))) (by exact Nat.le_of_ble_eq_true rfl) .nil fun p64 H68 np67 c65 r66 => ?_
   have d69 : Dj F0 [p64] := Ty.nin r0 np67
   have d70 : Dj F1 [p64] := Ty.nin r1 np67
   have d71 : Dj [D17] [p64] := Ty.nin r18 np67
   have d72 : Dj [p54] [p64] := Ty.nin r56 np67
   have n73 : ∀ a ∈ [p64], H0 a = none := one_fresh (c0.dom p64 np67)
   have r0 := Ty.ex r0 c65
   have r1 := Ty.ex r1 c65
   have r18 := Ty.ex r18 c65
   have r56 := Ty.ex r56 c65
   have c0 := c0.trans c65.none
   refine g_name (σ' := [some v0, some v1, some (.int d2), some (.ref D17), some (.ref p54), some (.ref p64), none, none, none, none, none]) rfl ?_
   obtain ⟨lifted74, hlifted74, hm⟩ := Mi.letE hm
   refine q_setE val_c (congrArg V.bl hlifted74) (σ' := [some v0, some v1, some (.int d2), some (.ref D17), some (.ref p54), some (.ref p64), some (.bl lifted74), none, none, none, none]) rfl ?_
   refine q_while ?_
   obtain ⟨e75, he75, hm⟩ := Mi.bnd hm
   refine l_while (fun m σ' H' => ∃ (s76 : ((List Int) × (List (Int × Int × Int)) × Bool)) (y77 : Option V) (y78 : Option V) (y79 : Option V) (y80 : Option V), σ' = [some v0, some v1, some (.int d2), some (.ref D17), some (.ref p54), some (.ref p64), some (.bl s76.2.2), y77, y78, y79, y80] ∧ Chg ([] : List Addr) H0 H' ∧ (yLst (yTup (sCons yInt (sOne yInt)))).rep K H' F0 v0 d0 ∧ (yLst (yTupL (ySum yInt (ySum yStr (yObj C_Gate nm_Gate ty_Gate))))).rep K H' F1 v1 d1 ∧ (yLst (yTupL (ySum yInt (ySum yStr (yObj C_Gate nm_Gate ty_Gate))))).rep K H' [D17] (.ref D17) s16 ∧ (yLst yInt).rep K H' [p54] (.ref p54) s76.1 ∧ (yLst (yTup (sCons yInt (sCons yInt (sOne yInt))))).rep K H' [p64] (.ref p64) s76.2.1 ∧ Mi.whileR (Mi.m_least_schedule_x_c2) (Mi.m_least_schedule_x_b2 d0 d2 s16) m s76 = some e75) 5000 ⟨(x53, ([] : (List (Int × Int × Int))), lifted74), none, none, none, none, rfl, c0, r0, r1, r18, r56, r66, he75⟩ (fun m81 σ' H' hp => ?_)
   obtain ⟨s76, y77, y78, y79, y80, rfl, c0, r0, r1, r18, r56, r66, hle75⟩ := hp
   obtain ⟨n82, b83, rfl, hce75, hle75⟩ := Mi.whileR_go hle75
   unfold Mi.m_least_schedule_x_c2 at hce75
   obtain rfl := Option.some.inj hce75
   refine c_ans (ans_B (val_var rfl)) ?_
   refine c_if (fun hb => ?_) (fun hb => ?_)
   ·
     replace hle75 := Mi.ifT hb hle75
     obtain ⟨o84, hbe75, hore75⟩ := Mi.whileR_step hle75
     unfold Mi.m_least_schedule_x_b2 at hbe75
     refine ⟨fun σ' H' => ∃ (s76 : ((List Int) × (List (Int × Int × Int)) × Bool)) (y77 : Option V) (y78 : Option V) (y79 : Option V) (y80 : Option V), σ' = [some v0, some v1, some (.int d2), some (.ref D17), some (.ref p54), some (.ref p64), some (.bl s76.2.2), y77, y78, y79, y80] ∧ Chg ([] : List Addr) H0 H' ∧ (yLst (yTup (sCons yInt (sOne yInt)))).rep K H' F0 v0 d0 ∧ (yLst (yTupL (ySum yInt (ySum yStr (yObj C_Gate nm_Gate ty_Gate))))).rep K H' F1 v1 d1 ∧ (yLst (yTupL (ySum yInt (ySum yStr (yObj C_Gate nm_Gate ty_Gate))))).rep K H' [D17] (.ref D17) s16 ∧ (yLst yInt).rep K H' [p54] (.ref p54) s76.1 ∧ (yLst (yTup (sCons yInt (sCons yInt (sOne yInt))))).rep K H' [p64] (.ref p64) s76.2.1 ∧ Mi.whileR (Mi.m_least_schedule_x_c2) (Mi.m_least_schedule_x_b2 d0 d2 s16) n82 s76 = some e75, fun σ2 H2 hq => ⟨n82, Nat.lt_succ_self _, hq⟩, ?_⟩
     obtain ⟨lifted85, hlifted85, hbe75⟩ := Mi.letE hbe75
     refine q_setE val_c (congrArg V.bl hlifted85) (σ' := [some v0, some v1, some (.int d2), some (.ref D17), some (.ref p54), some (.ref p64), some (.bl lifted85), y77, y78, y79, y80]) rfl ?_
     refine q_for ?_
     refine w_iEnum ?_
     refine w_args (va_cons (val_var rfl) va_nil) ?_
     obtain ⟨e86, he86, hbe75⟩ := Mi.bnd hbe75
     refine l_enum r18 (fun i σ' H' => ∃ (s87 : ((List Int) × (List (Int × Int × Int)) × Bool)) (y88 : Option V) (y89 : Option V) (y90 : Option V) (y91 : Option V), σ' = [some v0, some v1, some (.int d2), some (.ref D17), some (.ref p54), some (.ref p64), some (.bl s87.2.2), y88, y89, y90, y91] ∧ Chg ([] : List Addr) H0 H' ∧ (yLst (yTup (sCons yInt (sOne yInt)))).rep K H' F0 v0 d0 ∧ (yLst (yTupL (ySum yInt (ySum yStr (yObj C_Gate nm_Gate ty_Gate))))).rep K H' F1 v1 d1 ∧ (yLst (yTupL (ySum yInt (ySum yStr (yObj C_Gate nm_Gate ty_Gate))))).rep K H' [D17] (.ref D17) s16 ∧ (yLst yInt).rep K H' [p54] (.ref p54) s87.1 ∧ (yLst (yTup (sCons yInt (sCons yInt (sOne yInt))))).rep K H' [p64] (.ref p64) s87.2.1 ∧ Mi.forR (Mi.m_least_schedule_x_b3 d0 d2) s87 (List.drop i (Mi.enumF 0 s16)) = some e86) ⟨(s76.1, s76.2.1, lifted85), y77, y78, y79, y80, rfl, c0, r0, r1, r18, r56, r66, he86⟩ (fun i σ' H' hp => by obtain ⟨s87, y88, y89, y90, y91, rfl, c0, r0, r1, r18, r56, r66, _⟩ := hp; exact r18) (fun i94 x93 u95 σ' H' H98 hx92 c97 r96 hp => ?_) (fun σ' H' hp => ?_)
     ·
       obtain ⟨s87, y88, y89, y90, y91, rfl, c0, r0, r1, r18, r56, r66, hle86⟩ := hp
       obtain ⟨o99, hbe86, hore86⟩ := Mi.forR_go hle86 hx92
       unfold Mi.m_least_schedule_x_b3 at hbe86
       have r0 := Ty.ex r0 c97
       have r1 := Ty.ex r1 c97
       have r18 := Ty.ex r18 c97
       have r56 := Ty.ex r56 c97
       have r66 := Ty.ex r66 c97
       have c0 := c0.trans c97.none
       refine st_eq (σ' := [some v0, some v1, some (.int d2), some (.ref D17), some (.ref p54), some (.ref p64), some (.bl s87.2.2), some (.int x93.1), some u95, y90, y91]) rfl ?_
       refine q_asg ?_
       refine w_call ?_
       refine w_args (va_cons (val_var rfl) (va_cons (val_var rfl) (va_cons (val_var rfl) (va_cons (val_var rfl) va_nil)))) ?_
       obtain ⟨q100, hq100, hbe86⟩ := Mi.bnd hbe86
       refine ⟨v0, F0, d0, u95, x93.2, (.ref p54), [p54], s87.1, d2, q100, rfl, r0, r96, r56, hq100, fun v103 H102 c101 r104  => ?_⟩
       have r0 := Ty.ex r0 c101
       have r1 := Ty.ex r1 c101
       have r18 := Ty.ex r18 c101
       have r56 := Ty.ex r56 c101
       have r66 := Ty.ex r66 c101
       have r96 := Ty.fz r96 c101
       have c0 := c0.trans c101.none
       refine g_tup2 r104 fun u105 u106 r107 r108 => ?_
       obtain ⟨_, rfl⟩ := r107
       obtain ⟨_, rfl⟩ := r108
       refine g_names (σ' := [some v0, some v1, some (.int d2), some (.ref D17), some (.ref p54), some (.ref p64), some (.bl s87.2.2), some (.int x93.1), some u95, some (.int q100.1), some (.int q100.2)]) rfl ?_
       obtain ⟨s109, hs109, hbe86⟩ := Mi.bnd hbe86
       refine s_join (R := fun σ' H' => ∃ (s110 : ((List Int) × (List (Int × Int × Int)) × Bool)), s109 = .inr s110 ∧ σ' = [some v0, some v1, some (.int d2), some (.ref D17), some (.ref p54), some (.ref p64), some (.bl s110.2.2), some (.int x93.1), some u95, some (.int q100.1), some (.int q100.2)] ∧ Chg ([] : List Addr) H0 H' ∧ (yLst (yTup (sCons yInt (sOne yInt)))).rep K H' F0 v0 d0 ∧ (yLst (yTupL (ySum yInt (ySum yStr (yObj C_Gate nm_Gate ty_Gate))))).rep K H' F1 v1 d1 ∧ (yLst (yTupL (ySum yInt (ySum yStr (yObj C_Gate nm_Gate ty_Gate))))).rep K H' [D17] (.ref D17) s16 ∧ (yLst yInt).rep K H' [p54] (.ref p54) s110.1 ∧ (yLst (yTup (sCons yInt (sCons yInt (sOne yInt))))).rep K H' [p64] (.ref p64) s110.2.1 ∧ (yTupL (ySum yInt (ySum yStr (yObj C_Gate nm_Gate ty_Gate)))).rep K H' [] u95 x93.2) (fun nx kx => ?_) (fun σ' H' hj => ?_)
       ·
         obtain ⟨x111, hx111, hs109⟩ := Mi.bnd hs109
         refine s_if (ans_t (val_gt (val_var rfl) (itm_LI r56 hx111 (val_var rfl) (val_var rfl)))) (fun hb => ?_) (fun hb => ?_)
         ·
           replace hs109 := Mi.ifT hb hs109
           refine q_asg ?_
           refine c_val (val_var rfl) ?_
           refine w_gsub ?_
           refine c_val (val_var rfl) ?_
           refine c_val (val_var rfl) ?_
           obtain ⟨x112, hx112, hs109⟩ := Mi.bnd hs109
           refine m_set r56 yInt_i hx112 fun H114 c113 r56 => ?_
           have r0 := Ty.chg r0 c113 d59
           have r1 := Ty.chg r1 c113 d60
           have r18 := Ty.chg r18 c113 d61
           have r66 := Ty.chg r66 c113 d72.symm
           have r96 := Ty.fz r96 c113
           have c0 := c0.join c113 (fun a h => .inr (n63 a h))
           refine q_drop (w_bm (c_val (val_var rfl) ⟨tyv_lst r66, ?_⟩))
           refine w_cons ?_
           refine w_tup ?_
           refine w_args (va_cons (val_var rfl) (va_cons (val_var rfl) (va_cons (val_var rfl) va_nil))) ?_
           refine e_tup (K := K) (ty := (sCons yInt (sCons yInt (sOne yInt)))) (F := []) (d := (q100.1, q100.2, x93.1)) (by exact Nat.le_of_ble_eq_true rfl) ⟨_, _, _, _, rfl, rfl, yInt_i, ⟨_, _, _, _, rfl, rfl, yInt_i, ⟨_, rfl, yInt_i⟩⟩⟩ fun p115 H119 np118 c116 r117  => ?_
           have r0 := Ty.ex r0 c116
           have r1 := Ty.ex r1 c116
           have r18 := Ty.ex r18 c116
           have r56 := Ty.ex r56 c116
           have r66 := Ty.ex r66 c116
           have r96 := Ty.fz r96 c116
           have c0 := c0.trans c116.none
           refine w_nil ?_
           obtain ⟨x120, hx120, hs109⟩ := Mi.bnd hs109
           refine m_app r66 r117 hx120 fun H122 c121 r66 => ?_
           have r0 := Ty.chg r0 c121 d69
           have r1 := Ty.chg r1 c121 d70
           have r18 := Ty.chg r18 c121 d71
           have r56 := Ty.chg r56 c121 d72
           have r96 := Ty.fz r96 c121
           have c0 := c0.join c121 (fun a h => .inr (n73 a h))
           obtain ⟨lifted123, hlifted123, hs109⟩ := Mi.letE hs109
           refine q_setE val_c (congrArg V.bl hlifted123) (σ' := [some v0, some v1, some (.int d2), some (.ref D17), some (.ref p54), some (.ref p64), some (.bl lifted123), some (.int x93.1), some u95, some (.int q100.1), some (.int q100.2)]) rfl ?_
           refine q_if (ans_t (val_gt (val_var rfl) (val_var rfl))) (fun hb => ?_) (fun hb => ?_)
           ·
             replace hs109 := Mi.ifT hb hs109
             refine q_ret ?_
             refine w_tup ?_
             refine w_args (va_cons val_c (va_cons (val_var rfl) va_nil)) ?_
             refine e_tup (K := K) (ty := (sCons (yOpt (yLst yInt)) (sOne (yLst (yTup (sCons yInt (sCons yInt (sOne yInt)))))))) (F := ([] ++ [p64])) (d := ((none : (Option (List Int))), x120)) (by exact Nat.le_of_ble_eq_true rfl) ⟨_, _, _, _, rfl, rfl, opt_n, ⟨_, rfl, r66⟩⟩ fun p124 H128 np127 c125 r126  => ?_
             have r0 := Ty.ex r0 c125
             have r1 := Ty.ex r1 c125
             have r18 := Ty.ex r18 c125
             have r56 := Ty.ex r56 c125
             have r66 := Ty.ex r66 c125
             have r96 := Ty.fz r96 c125
             have c0 := c0.trans c125.none
             have d129 : Dj ([] ++ [p64]) F0 := (Dj.app (Dj.nil) (d69.symm))
             have d130 : Dj ([] ++ [p64]) F1 := (Dj.app (Dj.nil) (d70.symm))
             have d131 : Dj ([] ++ [p64]) [D17] := (Dj.app (Dj.nil) (d71.symm))
             have d132 : Dj ([] ++ [p64]) [p54] := (Dj.app (Dj.nil) (d72.symm))
             obtain rfl := Option.some.inj hs109
             obtain rfl := Option.some.inj (Mi.orL_inl hbe86)
             obtain rfl := Mi.or_inl hore86
             obtain rfl := Option.some.inj (Mi.orL_inl hbe75)
             obtain rfl := Mi.or_inl hore75
             obtain rfl := Option.some.inj (Mi.orR_inl hm)
             have hQ := hQ _ rfl
             exact hQ _ _ _ c0 ⟨r126, (nd_app List.nodup_nil (lst_nd r66) Dj.nil)⟩ (app_fresh nil_fresh n73) 
           replace hs109 := Mi.ifF hb hs109
           refine w_fall ?_
           refine w_nextJ ?_
           obtain rfl := Option.some.inj hs109
           exact kx _ _ ⟨_, rfl, rfl, c0, r0, r1, r18, r56, r66, r96⟩
         ·
           replace hs109 := Mi.ifF hb hs109
           refine w_nextJ ?_
           obtain rfl := Option.some.inj hs109
           exact kx _ _ ⟨_, rfl, rfl, c0, r0, r1, r18, r56, r66, r96⟩
       obtain ⟨s110, rfl, rfl, c0, r0, r1, r18, r56, r66, r96⟩ := hj
       replace hbe86 := Mi.orL_inr hbe86
       refine w_nextJ ?_
       obtain rfl := Option.some.inj hbe86
       replace hore86 := Mi.or_inr hore86
       exact ⟨_, (some (.int x93.1)), (some u95), (some (.int q100.1)), (some (.int q100.2)), rfl, c0, r0, r1, r18, r56, r66, hore86⟩
     obtain ⟨s87, y88, y89, y90, y91, rfl, c0, r0, r1, r18, r56, r66, hle86⟩ := hp
     obtain rfl := Mi.forR_end hle86
     replace hbe75 := Mi.orL_inr hbe75
     refine w_nextJ ?_
     obtain rfl := Option.some.inj hbe75
     replace hore75 := Mi.or_inr hore75
     exact ⟨_, y88, y89, y90, y91, rfl, c0, r0, r1, r18, r56, r66, hore75⟩
   replace hle75 := Mi.ifF hb hle75
   obtain rfl := Option.some.inj hle75
   replace hm := Mi.orR_inr hm
   refine q_ret ?_
   refine w_tup ?_
   refine w_args (va_cons (val_var rfl) (va_cons (val_var rfl) va_nil)) ?_
   refine e_tup (K := K) (ty := (sCons (yOpt (yLst yInt)) (sOne (yLst (yTup (sCons yInt (sCons yInt (sOne yInt)))))))) (F := ([p54] ++ [p64])) (d := ((some s76.1), s76.2.1)) (by exact Nat.le_of_ble_eq_true rfl) ⟨_, _, _, _, rfl, rfl, (opt_i (nn_lst r56) r56), ⟨_, rfl, r66⟩⟩ fun p133 H137 np136 c134 r135  => ?_
   have r0 := Ty.ex r0 c134
   have r1 := Ty.ex r1 c134
   have r18 := Ty.ex r18 c134
   have r56 := Ty.ex r56 c134
   have r66 := Ty.ex r66 c134
   have c0 := c0.trans c134.none
   have d138 : Dj ([p54] ++ [p64]) F0 := (Dj.app (d59.symm) (d69.symm))
   have d139 : Dj ([p54] ++ [p64]) F1 := (Dj.app (d60.symm) (d70.symm))
   have d140 : Dj ([p54] ++ [p64]) [D17] := (Dj.app (d61.symm) (d71.symm))
   obtain rfl := Option.some.inj hm
   have hQ := hQ _ rfl
   exact hQ _ _ _ c0 ⟨r135, (nd_app (optlst_nd (opt_i (nn_lst r56) r56)) (lst_nd r66) (d72))⟩ (app_fresh n63 n73) 
abbrev s_l_hand : Stmt := topS 39
theorem sc_l_hand : FnScope ["_law_script", "_law_k", "_law_cell", "_law_rest"] ["_law_script", "_law_k"] (defScope s_l_hand) := ⟨rfl, rfl, rfl, by decide +kernel, rfl, by decide +kernel, by decide +kernel⟩
def sp_l_hand (K : PySem.W.Frag) : Sp := fun vs H Q _ => ∃ (v0 : V) (d0 : (List Int)) (d1 : Int) (r : (List Int)), vs = [v0, (.int d1)] ∧ yScr.rep K H [] v0 d0 ∧ Mi.m_l_hand d0 d1 = some r ∧ ∀ v H' F, Chg ([]) H H' → (yLst yInt).rep K H' F v r → (∀ a ∈ F, H a = none) → Q v H'
theorem ok_l_hand (B : Bi mg) (CN : Cs K mg) (D : Dfn K mg "_law_hand" s_l_hand)  : Cal P w K mg "_law_hand" ["_law_script", "_law_k"] 1 (sp_l_hand K) := by
 obtain ⟨f, fd, F, g⟩ := D.ex
 refine ⟨f, fd, g, F.kp, bindsF F (fun _ _ _ _ _ _ us hl => match us, hl with | [_, _], _ => rfl), fun base => F.ok sc_l_hand (fun vs H Q E h => ?_) (fun cdv A outer s H0 vs Q E hr h => ?_)⟩
 · obtain ⟨v0, d0, d1, r, rfl, r0, hm, hQ⟩ := h; rfl
 ·
   obtain ⟨v0, d0, d1, r, rfl, r0, hm, hQ⟩ := h
   refine ⟨_, pss_cons (ps_set (i := 2) sc_l_hand.nd rfl (.inl rfl) pe_int)
     (pss_cons (ps_if (pt_cmpR op_lt (pv 1) (pe_callB (cl_len (K := K)) (by rfl) B.len PySem.boot_len (pa_cons (pv 0) pa_nil)) (nomark _)) (pss_cons (ps_set (i := 2) sc_l_hand.nd rfl (.inl rfl) (pe_ix (ix_l (K := K)) (pv 0) (pv 1) (fun _ _ => rfl)))
     (pss_nil)) (pss_nil))
     (pss_cons (ps_if (pt_cmpR op_lt (pv 2) pe_int (nomark _)) (pss_cons (ps_set (i := 2) sc_l_hand.nd rfl (.inl rfl) (pe_op op_sub pe_int (pe_op op_mul pe_int (pv 2))))
     (pss_nil)) (pss_nil))
     (pss_cons (ps_set (i := 3) sc_l_hand.nd rfl (.inl rfl) pe_int)
     (pss_cons (ps_if (pt_cmpR op_ge (pv 2) (pe_op op_pow pe_int pe_int) (nomark _)) (pss_cons (ps_set (i := 3) sc_l_hand.nd rfl (.inl rfl) (pv 2))
     (pss_nil)) (pss_nil))
     (pss_cons (ps_ret (pe_lst (pa_cons (pv 3) (pa_cons (pe_op op_mod (pe_callTy cl_int (by rfl) B.int (by decide +kernel) (pa_cons (pe_op op_add (pe_op op_add (pv 2) (pe_op op_mul pe_int (pv 1))) pe_int) pa_nil)) pe_int) (pa_cons pe_int pa_nil))))) pss_nil))))), ?_⟩
   have c0 : Chg ([] : List Addr) H0 H0 := Chg.refl H0
   unfold Mi.m_l_hand at hm
   obtain ⟨cell3, hcell3, hm⟩ := Mi.letE hm
   refine q_setE val_c (congrArg V.int hcell3) (σ' := [some v0, some (.int d1), some (.int cell3), none]) rfl ?_
   obtain ⟨s4, hs4, hm⟩ := Mi.bnd hm
   refine s_join (R := fun σ' H' => σ' = [some v0, some (.int d1), some (.int s4), none] ∧ Chg ([] : List Addr) H0 H' ∧ yScr.rep K H' [] v0 d0) (fun nx kx => ?_) (fun σ' H' hj => ?_)
   ·
     refine s_if (ans_t (val_lt (val_var rfl) (val_lenS r0 (val_var rfl)))) (fun hb => ?_) (fun hb => ?_)
     ·
       replace hs4 := Mi.ifT hb hs4
       obtain ⟨x5, hx5, hs4⟩ := Mi.bnd hs4
       obtain ⟨cell6, hcell6, hs4⟩ := Mi.letE hs4
       refine q_setE (itm_S r0 hx5 (val_var rfl) (val_var rfl)) (congrArg V.int hcell6) (σ' := [some v0, some (.int d1), some (.int cell6), none]) rfl ?_
       refine w_nextJ ?_
       obtain rfl := Option.some.inj hs4
       exact kx _ _ ⟨rfl, c0, r0⟩
     ·
       replace hs4 := Mi.ifF hb hs4
       refine w_nextJ ?_
       obtain rfl := Option.some.inj hs4
       exact kx _ _ ⟨rfl, c0, r0⟩
   obtain ⟨rfl, c0, r0⟩ := hj
   obtain ⟨s7, hs7, hm⟩ := Mi.bnd hm
   refine s_join (R := fun σ' H' => σ' = [some v0, some (.int d1), some (.int s7), none] ∧ Chg ([] : List Addr) H0 H' ∧ yScr.rep K H' [] v0 d0) (fun nx kx => ?_) (fun σ' H' hj => ?_)
   ·
     refine s_if (ans_t (val_lt (val_var rfl) val_c)) (fun hb => ?_) (fun hb => ?_)
     ·
       replace hs7 := Mi.ifT hb hs7
       obtain ⟨cell8, hcell8, hs7⟩ := Mi.letE hs7
       refine q_setE (val_sub val_c (val_mulL val_c (val_var rfl) ⟨by decide, by decide⟩)) (congrArg V.int hcell8) (σ' := [some v0, some (.int d1), some (.int cell8), none]) rfl ?_
       refine w_nextJ ?_
       obtain rfl := Option.some.inj hs7
       exact kx _ _ ⟨rfl, c0, r0⟩
     ·
       replace hs7 := Mi.ifF hb hs7
       refine w_nextJ ?_
       obtain rfl := Option.some.inj hs7
       exact kx _ _ ⟨rfl, c0, r0⟩
   obtain ⟨rfl, c0, r0⟩ := hj
   obtain ⟨rest9, hrest9, hm⟩ := Mi.letE hm
   refine q_setE val_c (congrArg V.int hrest9) (σ' := [some v0, some (.int d1), some (.int s7), some (.int rest9)]) rfl ?_
   obtain ⟨s10, hs10, hm⟩ := Mi.bnd hm
   refine s_join (R := fun σ' H' => σ' = [some v0, some (.int d1), some (.int s7), some (.int s10)] ∧ Chg ([] : List Addr) H0 H' ∧ yScr.rep K H' [] v0 d0) (fun nx kx => ?_) (fun σ' H' hj => ?_)
   ·
     refine s_if (ans_t (val_ge (val_var rfl) (val_pow (n := 18) val_c val_c rfl (by decide) (by decide)))) (fun hb => ?_) (fun hb => ?_)
     ·
       replace hs10 := Mi.ifT hb hs10
       obtain ⟨rest11, hrest11, hs10⟩ := Mi.letE hs10
       refine q_setE (val_var rfl) (congrArg V.int hrest11) (σ' := [some v0, some (.int d1), some (.int s7), some (.int rest11)]) rfl ?_
       refine w_nextJ ?_
       obtain rfl := Option.some.inj hs10
       exact kx _ _ ⟨rfl, c0, r0⟩
     ·
       replace hs10 := Mi.ifF hb hs10
       refine w_nextJ ?_
       obtain rfl := Option.some.inj hs10
       exact kx _ _ ⟨rfl, c0, r0⟩
   obtain ⟨rfl, c0, r0⟩ := hj
   refine q_ret ?_
   refine w_lst ?_
   refine w_args (va_cons (val_var rfl) (va_cons (val_modc (val_int (val_add (val_add (val_var rfl) (val_mulL val_c (val_var rfl) ⟨by decide, by decide⟩)) val_c)) val_c (by decide)) (va_cons val_c va_nil))) ?_
   refine e_lst (K := K) (τ := yInt) (by exact Nat.le_of_ble_eq_true rfl) (.cons yInt_i (.cons yInt_i (.cons yInt_i .nil))) fun p12 H16 np15 c13 r14 => ?_
   have n17 : ∀ a ∈ [p12], H0 a = none := one_fresh (c0.dom p12 np15)
   have r0 := Ty.fz r0 c13
   have c0 := c0.trans c13.none
   obtain rfl := Option.some.inj hm
   exact hQ _ _ _ c0 r14 n17 
abbrev s_l_pick : Stmt := topS 40
theorem sc_l_pick : FnScope ["_law_hand_here", "_law_size", "_law_digit", "_law_mixed"] ["_law_hand_here", "_law_size"] (defScope s_l_pick) := ⟨rfl, rfl, rfl, by decide +kernel, rfl, by decide +kernel, by decide +kernel⟩
def sp_l_pick (K : PySem.W.Frag) : Sp := fun vs H Q _ => ∃ (v0 : V) (F0 : List Addr) (d0 : (List Int)) (d1 : Int) (r : (Int × (List Int))), vs = [v0, (.int d1)] ∧ (yLst yInt).rep K H F0 v0 d0 ∧ Mi.m_l_pick d0 d1 = some r ∧ ∀ H', Chg (F0) H H' → (yLst yInt).rep K H' F0 v0 r.2 → Q (.int r.1) H'
theorem ok_l_pick (B : Bi mg) (CN : Cs K mg) (D : Dfn K mg "_law_pick" s_l_pick)  : Cal P w K mg "_law_pick" ["_law_hand_here", "_law_size"] 1 (sp_l_pick K) := by
 obtain ⟨f, fd, F, g⟩ := D.ex
 refine ⟨f, fd, g, F.kp, bindsF F (fun _ _ _ _ _ _ us hl => match us, hl with | [_, _], _ => rfl), fun base => F.ok sc_l_pick (fun vs H Q E h => ?_) (fun cdv A outer s H0 vs Q E hr h => ?_)⟩
 · obtain ⟨v0, F0, d0, d1, r, rfl, r0, hm, hQ⟩ := h; rfl
 ·
   obtain ⟨v0, F0, d0, d1, r, rfl, r0, hm, hQ⟩ := h
   refine ⟨_, pss_cons (ps_if (pt_cmpR op_lt (pv 1) pe_int (nomark _)) (pss_cons (ps_ret pe_int) pss_nil) (pss_nil))
     (pss_cons (ps_if (pt_cmpR op_gt (pe_ix (ix_l (K := K)) (pv 0) pe_int (fun _ _ => rfl)) pe_int (nomark _)) (pss_cons (ps_set (i := 2) sc_l_pick.nd rfl (.inl rfl) (pe_op op_mod (pe_callTy cl_int (by rfl) B.int (by decide +kernel) (pa_cons (pe_ix (ix_l (K := K)) (pv 0) pe_int (fun _ _ => rfl)) pa_nil)) (pv 1)))
     (pss_cons (ps_asg (pe_op op_fdivW (pe_ix (ix_l (K := K)) (pv 0) pe_int (fun _ _ => rfl)) (pv 1)) (pg_sub (pv 0) pe_int set_list))
     (pss_cons (ps_ret (pv 2)) pss_nil))) (pss_nil))
     (pss_cons (ps_asg (pe_op op_add (pe_ix (ix_l (K := K)) (pv 0) pe_int (fun _ _ => rfl)) pe_int) (pg_sub (pv 0) pe_int set_list))
     (pss_cons (ps_set (i := 3) sc_l_pick.nd rfl (.inl rfl) (pe_op op_mod (pe_callTy cl_int (by rfl) B.int (by decide +kernel) (pa_cons (pe_op op_add (pe_op op_add (pe_ix (ix_l (K := K)) (pv 0) pe_int (fun _ _ => rfl)) (pe_op op_mul pe_int (pe_ix (ix_l (K := K)) (pv 0) pe_int (fun _ _ => rfl)))) pe_int) pa_nil)) pe_int))
     (pss_cons (ps_set (i := 3) sc_l_pick.nd rfl (.inl rfl) (pe_op op_mod (pe_callTy cl_int (by rfl) B.int (by decide +kernel) (pa_cons (pe_op op_mul (pv 3) (pe_op op_add (pv 3) pe_int)) pa_nil)) pe_int))
     (pss_cons (ps_set (i := 3) sc_l_pick.nd rfl (.inl rfl) (pe_op op_mod (pe_callTy cl_int (by rfl) B.int (by decide +kernel) (pa_cons (pe_op op_add (pe_op op_mul (pv 3) (pe_op op_add (pv 3) pe_int)) (pe_op op_mul pe_int (pe_ix (ix_l (K := K)) (pv 0) pe_int (fun _ _ => rfl)))) pa_nil)) pe_int))
     (pss_cons (ps_ret (pe_op op_mod (pe_callTy cl_int (by rfl) B.int (by decide +kernel) (pa_cons (pe_op op_fdiv (pv 3) pe_int) pa_nil)) (pv 1))) pss_nil)))))), ?_⟩
   have c0 : Chg (F0) H0 H0 := Chg.refl H0
   unfold Mi.m_l_pick at hm
   refine q_if (ans_t (val_lt (val_var rfl) val_c)) (fun hb => ?_) (fun hb => ?_)
   ·
     replace hm := Mi.ifT hb hm
     refine q_ret ?_
     refine c_val val_c ?_
     obtain rfl := Option.some.inj hm
     exact hQ _ c0 r0
   replace hm := Mi.ifF hb hm
   refine w_fall ?_
   obtain ⟨x3, hx3, hm⟩ := Mi.bnd hm
   refine q_if (ans_t (val_gt (itm_LI r0 hx3 (val_var rfl) val_c) val_c)) (fun hb => ?_) (fun hb => ?_)
   ·
     replace hm := Mi.ifT hb hm
     obtain ⟨x4, hx4, hm⟩ := Mi.bnd hm
     obtain ⟨x5, hx5, hm⟩ := Mi.bnd hm
     obtain ⟨digit6, hdigit6, hm⟩ := Mi.letE hm
     refine q_setE (val_mod (val_int (itm_LI r0 hx4 (val_var rfl) val_c)) (val_var rfl) hx5) (congrArg V.int hdigit6) (σ' := [some v0, some (.int d1), some (.int digit6), none]) rfl ?_
     refine q_asg ?_
     obtain ⟨x7, hx7, hm⟩ := Mi.bnd hm
     obtain ⟨x8, hx8, hm⟩ := Mi.bnd hm
     refine c_val (val_fdiv (itm_LI r0 hx7 (val_var rfl) val_c) (val_var rfl) hx8) ?_
     refine w_gsub ?_
     refine c_val (val_var rfl) ?_
     refine c_val val_c ?_
     obtain ⟨x9, hx9, hm⟩ := Mi.bnd hm
     refine m_set r0 yInt_i hx9 fun H11 c10 r0 => ?_
     have c0 := c0.join c10 (fun a h => .inl (h))
     refine q_ret ?_
     refine c_val (val_var rfl) ?_
     obtain rfl := Option.some.inj hm
     exact hQ _ c0 r0
   replace hm := Mi.ifF hb hm
   refine w_fall ?_
   refine q_asg ?_
   obtain ⟨x12, hx12, hm⟩ := Mi.bnd hm
   refine c_val (val_add (itm_LI r0 hx12 (val_var rfl) val_c) val_c) ?_
   refine w_gsub ?_
   refine c_val (val_var rfl) ?_
   refine c_val val_c ?_
   obtain ⟨x13, hx13, hm⟩ := Mi.bnd hm
   refine m_set r0 yInt_i hx13 fun H15 c14 r0 => ?_
   have c0 := c0.join c14 (fun a h => .inl (h))
   obtain ⟨x16, hx16, hm⟩ := Mi.bnd hm
   obtain ⟨x17, hx17, hm⟩ := Mi.bnd hm
   obtain ⟨mixed18, hmixed18, hm⟩ := Mi.letE hm
   refine q_setE (val_modc (val_int (val_add (val_add (itm_LI r0 hx16 (val_var rfl) val_c) (val_mulL val_c (itm_LI r0 hx17 (val_var rfl) val_c) ⟨by decide, by decide⟩)) val_c)) val_c (by decide)) (congrArg V.int hmixed18) (σ' := [some v0, some (.int d1), none, some (.int mixed18)]) rfl ?_
   obtain ⟨x19, hx19, hm⟩ := Mi.bnd hm
   obtain ⟨mixed20, hmixed20, hm⟩ := Mi.letE hm
   refine q_setE (val_modc (val_int (val_mul (val_var rfl) (val_add (val_var rfl) val_c) hx19)) val_c (by decide)) (congrArg V.int hmixed20) (σ' := [some v0, some (.int d1), none, some (.int mixed20)]) rfl ?_
   obtain ⟨x21, hx21, hm⟩ := Mi.bnd hm
   obtain ⟨x22, hx22, hm⟩ := Mi.bnd hm
   obtain ⟨mixed23, hmixed23, hm⟩ := Mi.letE hm
   refine q_setE (val_modc (val_int (val_add (val_mul (val_var rfl) (val_add (val_var rfl) val_c) hx21) (val_mulL val_c (itm_LI r0 hx22 (val_var rfl) val_c) ⟨by decide, by decide⟩))) val_c (by decide)) (congrArg V.int hmixed23) (σ' := [some v0, some (.int d1), none, some (.int mixed23)]) rfl ?_
   refine q_ret ?_
   obtain ⟨x24, hx24, hm⟩ := Mi.bnd hm
   refine c_val (val_mod (val_int (val_divc (val_var rfl) val_c ⟨by decide, by decide⟩)) (val_var rfl) hx24) ?_
   obtain rfl := Option.some.inj hm
   exact hQ _ c0 r0
abbrev s_l_int : Stmt := topS 41
theorem sc_l_int : FnScope ["_law_x"] ["_law_x"] (defScope s_l_int) := ⟨rfl, rfl, rfl, by decide +kernel, rfl, by decide +kernel, by decide +kernel⟩
def sp_l_int (K : PySem.W.Frag) : Sp := fun vs H Q _ => (∃ (d0 : Int) (r : Bool), vs = [(.int d0)] ∧ Mi.m_l_int_0 d0 = some r ∧ ∀ H', Chg ([]) H H' → Q (.bl r) H') ∨ (∃ (v0 : V) (d0 : (Option Int)) (r : Bool), vs = [v0] ∧ (yOpt yInt).rep K H [] v0 d0 ∧ Mi.m_l_int_1 d0 = some r ∧ ∀ H', Chg ([]) H H' → Q (.bl r) H')
theorem ok_l_int (B : Bi mg) (CN : Cs K mg) (D : Dfn K mg "_law_int" s_l_int)  : Cal P w K mg "_law_int" ["_law_x"] 1 (sp_l_int K) := by
 obtain ⟨f, fd, F, g⟩ := D.ex
 refine ⟨f, fd, g, F.kp, bindsF F (fun _ _ _ _ _ _ us hl => match us, hl with | [_], _ => rfl), fun base => F.ok sc_l_int (fun vs H Q E h => ?_) (fun cdv A outer s H0 vs Q E hr h => ?_)⟩
 · rcases h with ⟨d0, r, rfl, hm, hQ⟩ | ⟨v0, d0, r, rfl, r0, hm, hQ⟩
   all_goals rfl
 · rcases h with h | h
   ·
     obtain ⟨d0, r, rfl, hm, hQ⟩ := h
     refine ⟨_, pss_cons (ps_ret (pe_and (pe_callB (cl_isi (K := K)) (by rfl) B.isinstance (by decide +kernel) (pa_cons (pv 0) (pa_cons (pe_bltn (v := .ty "int") (by rfl) B.int (by decide +kernel) rfl) pa_nil))) (pe_one (pe_not (pe_callB (cl_isi (K := K)) (by rfl) B.isinstance (by decide +kernel) (pa_cons (pv 0) (pa_cons (pe_bltn (v := .ty "bool") (by rfl) B.bool (by decide +kernel) rfl) pa_nil))))))) pss_nil, ?_⟩
     have c0 : Chg ([] : List Addr) H0 H0 := Chg.refl H0
     unfold Mi.m_l_int_0 at hm
     refine q_ret ?_
     refine c_val (val_andV (val_isi (val_var rfl) ty_int (n := "int") (m := "int") (b := true) (by decide +kernel)) (fun _ => (val_notV (val_isi (val_var rfl) ty_int (n := "int") (m := "bool") (b := false) (by decide +kernel))))) ?_
     obtain rfl := Option.some.inj hm
     exact hQ _ c0 
   ·
     obtain ⟨v0, d0, r, rfl, r0, hm, hQ⟩ := h
     refine ⟨_, pss_cons (ps_ret (pe_and (pe_callB (cl_isi (K := K)) (by rfl) B.isinstance (by decide +kernel) (pa_cons (pv 0) (pa_cons (pe_bltn (v := .ty "int") (by rfl) B.int (by decide +kernel) rfl) pa_nil))) (pe_one (pe_not (pe_callB (cl_isi (K := K)) (by rfl) B.isinstance (by decide +kernel) (pa_cons (pv 0) (pa_cons (pe_bltn (v := .ty "bool") (by rfl) B.bool (by decide +kernel) rfl) pa_nil))))))) pss_nil, ?_⟩
     have c0 : Chg ([] : List Addr) H0 H0 := Chg.refl H0
     unfold Mi.m_l_int_1 at hm
     refine q_ret ?_
     refine c_val (val_andV (val_isiO (n := "int") (m := "int") (b := true) tyr_int r0 (val_var rfl) (by decide +kernel) (by decide +kernel)) (fun _ => (val_notV (val_isiO (n := "int") (m := "bool") (b := false) tyr_int r0 (val_var rfl) (by decide +kernel) (by decide +kernel))))) ?_
     obtain rfl := Option.some.inj hm
     exact hQ _ c0 
theorem okH_l_int (B : Bi mg) (CN : Cs K mg) (D : Dfn K mg "_law_int" s_l_int)  : CalH P w K mg "_law_int" ["_law_x"] 1 (sp_l_int K) := by
 obtain ⟨f, fd, F, g⟩ := D.ex
 refine ⟨f, fd, g, F.kp, bindsF F (fun _ _ _ _ _ _ us hl => match us, hl with | [_], _ => rfl), fun base => okH F sc_l_int (fun vs H Q E h => ?_) (fun cdv A outer s H0 vs Q E hp hpx hr h => ?_)⟩
 · rcases h with ⟨d0, r, rfl, hm, hQ⟩ | ⟨v0, d0, r, rfl, r0, hm, hQ⟩
   all_goals rfl
 · rcases h with h | h
   ·
     obtain ⟨d0, r, rfl, hm, hQ⟩ := h
     refine ⟨_, pss_cons (ps_ret (pe_and (pe_callB (cl_isi (K := K)) (by rfl) B.isinstance (by decide +kernel) (pa_cons (pv 0) (pa_cons (pe_bltn (v := .ty "int") (by rfl) B.int (by decide +kernel) rfl) pa_nil))) (pe_one (pe_not (pe_callB (cl_isi (K := K)) (by rfl) B.isinstance (by decide +kernel) (pa_cons (pv 0) (pa_cons (pe_bltn (v := .ty "bool") (by rfl) B.bool (by decide +kernel) rfl) pa_nil))))))) pss_nil, ?_⟩
     have c0 : Chg ([] : List Addr) H0 H0 := Chg.refl H0
     unfold Mi.m_l_int_0 at hm
     refine q_ret ?_
     refine c_val (val_andV (val_isi (val_var rfl) ty_int (n := "int") (m := "int") (b := true) (by decide +kernel)) (fun _ => (val_notV (val_isi (val_var rfl) ty_int (n := "int") (m := "bool") (b := false) (by decide +kernel))))) ?_
     obtain rfl := Option.some.inj hm
     exact hQ _ c0 
   ·
     obtain ⟨v0, d0, r, rfl, r0, hm, hQ⟩ := h
     refine ⟨_, pss_cons (ps_ret (pe_and (pe_callB (cl_isi (K := K)) (by rfl) B.isinstance (by decide +kernel) (pa_cons (pv 0) (pa_cons (pe_bltn (v := .ty "int") (by rfl) B.int (by decide +kernel) rfl) pa_nil))) (pe_one (pe_not (pe_callB (cl_isi (K := K)) (by rfl) B.isinstance (by decide +kernel) (pa_cons (pv 0) (pa_cons (pe_bltn (v := .ty "bool") (by rfl) B.bool (by decide +kernel) rfl) pa_nil))))))) pss_nil, ?_⟩
     have c0 : Chg ([] : List Addr) H0 H0 := Chg.refl H0
     unfold Mi.m_l_int_1 at hm
     refine q_ret ?_
     refine c_val (val_andV (val_isiO (n := "int") (m := "int") (b := true) tyr_int r0 (val_var rfl) (by decide +kernel) (by decide +kernel)) (fun _ => (val_notV (val_isiO (n := "int") (m := "bool") (b := false) tyr_int r0 (val_var rfl) (by decide +kernel) (by decide +kernel))))) ?_
     obtain rfl := Option.some.inj hm
     exact hQ _ c0 
abbrev s_l_sailings : Stmt := topS 42
theorem sc_l_sailings : FnScope ["_law_hand_here", "_law_count", "_law_span", "_law_sailings_here", "_law_k", "_law_low"] ["_law_hand_here"] (defScope s_l_sailings) := ⟨rfl, rfl, rfl, by decide +kernel, rfl, by decide +kernel, by decide +kernel⟩
def sp_l_sailings (K : PySem.W.Frag) : Sp := fun vs H Q _ => ∃ (v0 : V) (F0 : List Addr) (d0 : (List Int)) (r : ((List (Int × Int)) × (List Int))), vs = [v0] ∧ (yLst yInt).rep K H F0 v0 d0 ∧ Mi.m_l_sailings d0 = some r ∧ ∀ v H' F, Chg (F0) H H' → (yLst (yTup (sCons yInt (sOne yInt)))).rep K H' F v r.1 → (∀ a ∈ F, H a = none) → (yLst yInt).rep K H' F0 v0 r.2 → Q v H'
theorem ok_l_sailings (B : Bi mg) (CN : Cs K mg) (D : Dfn K mg "_law_sailings" s_l_sailings) (C_l_pick : Cal P w K mg "_law_pick" ["_law_hand_here", "_law_size"] 1 (sp_l_pick K)) : Cal P w K mg "_law_sailings" ["_law_hand_here"] 2 (sp_l_sailings K) := by
 obtain ⟨f, fd, F, g⟩ := D.ex
 refine ⟨f, fd, g, F.kp, bindsF F (fun _ _ _ _ _ _ us hl => match us, hl with | [_], _ => rfl), fun base => F.ok sc_l_sailings (fun vs H Q E h => ?_) (fun cdv A outer s H0 vs Q E hr h => ?_)⟩
 · obtain ⟨v0, F0, d0, r, rfl, r0, hm, hQ⟩ := h; rfl
 ·
   obtain ⟨v0, F0, d0, r, rfl, r0, hm, hQ⟩ := h
   refine ⟨_, pss_cons (ps_set (i := 1) sc_l_sailings.nd rfl (.inl rfl) (pe_op op_add pe_int (pe_cc C_l_pick hr (pa_cons (pv 0) (pa_cons (pe_ix (ix_l (K := K)) (pe_lst (pa_cons pe_int (pa_cons pe_int (pa_cons pe_int (pa_cons pe_int (pa_cons pe_int (pa_cons pe_int (pa_cons pe_int (pa_cons pe_int pa_nil))))))))) (pe_cc C_l_pick hr (pa_cons (pv 0) (pa_cons pe_int pa_nil))) (fun _ _ => rfl)) pa_nil)))))
     (pss_cons (ps_set (i := 2) sc_l_sailings.nd rfl (.inl rfl) (pe_ix (ix_l (K := K)) (pe_lst (pa_cons pe_int (pa_cons pe_int (pa_cons pe_int (pa_cons pe_int (pa_cons pe_int (pa_cons pe_int (pa_cons pe_int (pa_cons pe_int pa_nil))))))))) (pe_cc C_l_pick hr (pa_cons (pv 0) (pa_cons pe_int pa_nil))) (fun _ _ => rfl)))
     (pss_cons (ps_set (i := 3) sc_l_sailings.nd rfl (.inl rfl) (pe_lst pa_nil))
     (pss_cons (ps_for PassesOwn.never rfl (pi_range1 (by rfl) B.range (pa_cons (pv 1) pa_nil)) (pg_name (i := 4) sc_l_sailings.nd rfl (.inl rfl)) (pss_cons (ps_set (i := 5) sc_l_sailings.nd rfl (.inl rfl) (pe_cc C_l_pick hr (pa_cons (pv 0) (pa_cons (pv 2) pa_nil))))
     (pss_cons (ps_expr (pe_bm PySem.F.plainAttrs_list PySem.F.slot_list_append PySem.F.type_list_append mt_append (pv 3) (pa_cons (pe_tup (pa_cons (pv 5) (pa_cons (pe_op op_add (pv 5) (pe_cc C_l_pick hr (pa_cons (pv 0) (pa_cons (pe_op op_sub (pv 2) (pv 5)) pa_nil)))) pa_nil))) pa_nil)))
     (pss_nil))))
     (pss_cons (ps_ret (pv 3)) pss_nil)))), ?_⟩
   have c0 : Chg (F0) H0 H0 := Chg.refl H0
   unfold Mi.m_l_sailings at hm
   refine q_asg ?_
   refine w_op ?_
   refine c_val val_c ?_
   refine w_call ?_
   refine w_cons ?_
   refine c_val (val_var rfl) ?_
   refine w_cons ?_
   refine w_op ?_
   refine w_lst ?_
   refine w_args (va_cons val_c (va_cons val_c (va_cons val_c (va_cons val_c (va_cons val_c (va_cons val_c (va_cons val_c (va_cons val_c va_nil)))))))) ?_
   refine e_lst (K := K) (τ := yInt) (by exact Nat.le_of_ble_eq_true rfl) (.cons yInt_i (.cons yInt_i (.cons yInt_i (.cons yInt_i (.cons yInt_i (.cons yInt_i (.cons yInt_i (.cons yInt_i .nil)))))))) fun p2 H6 np5 c3 r4 => ?_
   have d7 : Dj F0 [p2] := Ty.nin r0 np5
   have n8 : ∀ a ∈ [p2], H0 a = none := one_fresh (c0.dom p2 np5)
   have r0 := Ty.ex r0 c3
   have c0 := c0.trans c3.none
   refine w_call ?_
   refine w_args (va_cons (val_var rfl) (va_cons val_c va_nil)) ?_
   obtain ⟨q9, hq9, hm⟩ := Mi.bnd hm
   refine ⟨v0, F0, d0, (8 : Int), q9, rfl, r0, hq9, fun H11 c10 r0 => ?_⟩
   have r4 := Ty.chg r4 c10 d7.symm
   have c0 := c0.join c10 (fun a h => .inl (h))
   obtain ⟨x12, hx12, hm⟩ := Mi.bnd hm
   refine w_ixL r4 hx12 fun u13 r14 => ?_
   obtain ⟨_, rfl⟩ := r14
   refine w_nil ?_
   obtain ⟨q15, hq15, hm⟩ := Mi.bnd hm
   refine ⟨v0, F0, q9.2, x12, q15, rfl, r0, hq15, fun H17 c16 r0 => ?_⟩
   have c0 := c0.join c16 (fun a h => .inl (h))
   refine w_I0 ?_
   obtain ⟨count18, hcount18, hm⟩ := Mi.letE hm
   refine g_nameE (congrArg V.int hcount18) (σ' := [some v0, some (.int count18), none, none, none, none]) rfl ?_
   refine q_asg ?_
   refine w_op ?_
   refine w_lst ?_
   refine w_args (va_cons val_c (va_cons val_c (va_cons val_c (va_cons val_c (va_cons val_c (va_cons val_c (va_cons val_c (va_cons val_c va_nil)))))))) ?_
   refine e_lst (K := K) (τ := yInt) (by exact Nat.le_of_ble_eq_true rfl) (.cons yInt_i (.cons yInt_i (.cons yInt_i (.cons yInt_i (.cons yInt_i (.cons yInt_i (.cons yInt_i (.cons yInt_i .nil)))))))) fun p19 H23 np22 c20 r21 => ?_
   have d24 : Dj F0 [p19] := Ty.nin r0 np22
   have n25 : ∀ a ∈ [p19], H0 a = none := one_fresh (c0.dom p19 np22)
   have r0 := Ty.ex r0 c20
   have c0 := c0.trans c20.none
   refine w_call ?_
   refine w_args (va_cons (val_var rfl) (va_cons val_c va_nil)) ?_
   obtain ⟨q26, hq26, hm⟩ := Mi.bnd hm
   refine ⟨v0, F0, q15.2, (8 : Int), q26, rfl, r0, hq26, fun H28 c27 r0 => ?_⟩
   have r21 := Ty.chg r21 c27 d24.symm
   have c0 := c0.join c27 (fun a h => .inl (h))
   obtain ⟨x29, hx29, hm⟩ := Mi.bnd hm
   refine w_ixL r21 hx29 fun u30 r31 => ?_
   obtain ⟨_, rfl⟩ := r31
   refine g_name (σ' := [some v0, some (.int count18), some (.int x29), none, none, none]) rfl ?_
   refine q_asg ?_
   refine w_lst ?_
   refine w_args va_nil ?_
   refine e_lst (K := K) (τ := (yTup (sCons yInt (sOne yInt)))) (by exact Nat.le_of_ble_eq_true rfl) .nil fun p32 H36 np35 c33 r34 => ?_
   have d37 : Dj F0 [p32] := Ty.nin r0 np35
   have n38 : ∀ a ∈ [p32], H0 a = none := one_fresh (c0.dom p32 np35)
   have r0 := Ty.ex r0 c33
   have c0 := c0.trans c33.none
   refine g_name (σ' := [some v0, some (.int count18), some (.int x29), some (.ref p32), none, none]) rfl ?_
   refine q_for ?_
   refine w_iRng1 ?_
   refine w_args (va_cons (val_var rfl) va_nil) ?_
   obtain ⟨g39, hg39, hm⟩ := Mi.bnd hm
   obtain ⟨e40, he40, hm⟩ := Mi.bnd hm
   refine l_rng1 hg39 (fun i σ' H' => ∃ (s41 : ((List Int) × (List (Int × Int)))) (y42 : Option V) (y43 : Option V), σ' = [some v0, some (.int count18), some (.int x29), some (.ref p32), y42, y43] ∧ Chg (F0) H0 H' ∧ (yLst yInt).rep K H' F0 v0 s41.1 ∧ (yLst (yTup (sCons yInt (sOne yInt)))).rep K H' [p32] (.ref p32) s41.2 ∧ Mi.forN (Mi.m_l_sailings_b1 x29) s41 (List.drop i g39) = some e40) ⟨(q26.2, ([] : (List (Int × Int)))), none, none, rfl, c0, r0, r34, he40⟩ (fun i46 x45 σ' H' hx44 hp => ?_) (fun σ' H' hp => ?_)
   ·
     obtain ⟨s41, y42, y43, rfl, c0, r0, r34, hle40⟩ := hp
     obtain ⟨_, hbe40, hle40⟩ := Mi.forN_go hle40 hx44
     unfold Mi.m_l_sailings_b1 at hbe40
     refine g_name (σ' := [some v0, some (.int count18), some (.int x29), some (.ref p32), some (.int x45), y43]) rfl ?_
     refine q_asg ?_
     refine w_call ?_
     refine w_args (va_cons (val_var rfl) (va_cons (val_var rfl) va_nil)) ?_
     obtain ⟨q47, hq47, hbe40⟩ := Mi.bnd hbe40
     refine ⟨v0, F0, s41.1, x29, q47, rfl, r0, hq47, fun H49 c48 r0 => ?_⟩
     have r34 := Ty.chg r34 c48 d37.symm
     have c0 := c0.join c48 (fun a h => .inl (h))
     refine g_name (σ' := [some v0, some (.int count18), some (.int x29), some (.ref p32), some (.int x45), some (.int q47.1)]) rfl ?_
     refine q_drop (w_bm (c_val (val_var rfl) ⟨tyv_lst r34, ?_⟩))
     refine w_cons ?_
     refine w_tup ?_
     refine w_cons ?_
     refine c_val (val_var rfl) ?_
     refine w_cons ?_
     refine w_op ?_
     refine c_val (val_var rfl) ?_
     refine w_call ?_
     refine w_args (va_cons (val_var rfl) (va_cons (val_sub (val_var rfl) (val_var rfl)) va_nil)) ?_
     obtain ⟨q50, hq50, hbe40⟩ := Mi.bnd hbe40
     refine ⟨v0, F0, q47.2, (x29 - q47.1), q50, rfl, r0, hq50, fun H52 c51 r0 => ?_⟩
     have r34 := Ty.chg r34 c51 d37.symm
     have c0 := c0.join c51 (fun a h => .inl (h))
     refine w_I0 ?_
     refine w_nil ?_
     refine e_tup (K := K) (ty := (sCons yInt (sOne yInt))) (F := []) (d := (q47.1, (q47.1 + q50.1))) (by exact Nat.le_of_ble_eq_true rfl) ⟨_, _, _, _, rfl, rfl, yInt_i, ⟨_, rfl, yInt_i⟩⟩ fun p53 H57 np56 c54 r55  => ?_
     have r0 := Ty.ex r0 c54
     have r34 := Ty.ex r34 c54
     have c0 := c0.trans c54.none
     refine w_nil ?_
     obtain ⟨x58, hx58, hbe40⟩ := Mi.bnd hbe40
     refine m_app r34 r55 hx58 fun H60 c59 r34 => ?_
     have r0 := Ty.chg r0 c59 d37
     have c0 := c0.join c59 (fun a h => .inr (n38 a h))
     refine w_nextJ ?_
     obtain rfl := Option.some.inj hbe40
     exact ⟨_, (some (.int x45)), (some (.int q47.1)), rfl, c0, r0, r34, hle40⟩
   obtain ⟨s41, y42, y43, rfl, c0, r0, r34, hle40⟩ := hp
   obtain rfl := Mi.forN_end hle40
   refine q_ret ?_
   refine c_val (val_var rfl) ?_
   obtain rfl := Option.some.inj hm
   exact hQ _ _ _ c0 r34 n38 r0
abbrev s_l_schedule : Stmt := topS 43
abbrev N_l_schedule : List Str := ["_law_hand_here", "_law_count", "_law_span", "_law_k"]
theorem sc_l_schedule : FnScope ["_law_hand_here", "_law_count", "_law_span", "_law_k"] ["_law_hand_here", "_law_count"] (defScope s_l_schedule) := ⟨rfl, rfl, rfl, by decide +kernel, rfl, by decide +kernel, by decide +kernel⟩
def sp_l_schedule (K : PySem.W.Frag) : Sp := fun vs H Q _ => ∃ (v0 : V) (F0 : List Addr) (d0 : (List Int)) (d1 : Int) (r : ((List Int) × (List Int))), vs = [v0, (.int d1)] ∧ (yLst yInt).rep K H F0 v0 d0 ∧ Mi.m_l_schedule d0 d1 = some r ∧ ∀ v H' F, Chg (F0) H H' → (yLst yInt).rep K H' F v r.1 → (∀ a ∈ F, H a = none) → (yLst yInt).rep K H' F0 v0 r.2 → Q v H'
theorem ok_l_schedule (B : Bi mg) (CN : Cs K mg) (D : Dfn K mg "_law_schedule" s_l_schedule) (C_l_pick : Cal P w K mg "_law_pick" ["_law_hand_here", "_law_size"] 1 (sp_l_pick K)) : Cal P w K mg "_law_schedule" ["_law_hand_here", "_law_count"] 2 (sp_l_schedule K) := by
 obtain ⟨f, fd, F, g⟩ := D.ex
 refine ⟨f, fd, g, F.kp, bindsF F (fun _ _ _ _ _ _ us hl => match us, hl with | [_, _], _ => rfl), fun base => F.ok sc_l_schedule (fun vs H Q E h => ?_) (fun cdv A outer s H0 vs Q E hr h => ?_)⟩
 · obtain ⟨v0, F0, d0, d1, r, rfl, r0, hm, hQ⟩ := h; rfl
 ·
   obtain ⟨v0, F0, d0, d1, r, rfl, r0, hm, hQ⟩ := h
   refine ⟨_, pss_cons (ps_set (i := 2) sc_l_schedule.nd rfl (.inr rfl) (pe_ix (ix_l (K := K)) (pe_lst (pa_cons pe_int (pa_cons pe_int (pa_cons pe_int (pa_cons pe_int pa_nil))))) (pe_cc C_l_pick hr (pa_cons (pv 0) (pa_cons pe_int pa_nil))) (fun _ _ => rfl)))
     (pss_cons (ps_ret (pe_lc (own := [("_law_k", 3)]) rfl sc_l_schedule.nd (pi_range1 (by rfl) B.range (pa_cons (pv 1) pa_nil)) (blkOk_by (own := [("_law_k", 3)]) (N := N_l_schedule) (sc := defScope s_l_schedule) (by decide +kernel)) (fun _ _ _ _ _ => (pg_name (i := 3) sc_l_schedule.nd rfl (.inl rfl))) (fun _ _ _ _ _ => pts_nil) (fun _ _ _ _ _ => (pe_cc C_l_pick hr (pa_cons (pv 0) (pa_cons (pv 2) pa_nil)))))) pss_nil), ?_⟩
   have c0 : Chg (F0) H0 H0 := Chg.refl H0
   unfold Mi.m_l_schedule at hm
   refine q_asg ?_
   refine w_op ?_
   refine w_lst ?_
   refine w_args (va_cons val_c (va_cons val_c (va_cons val_c (va_cons val_c va_nil)))) ?_
   refine e_lst (K := K) (τ := yInt) (by exact Nat.le_of_ble_eq_true rfl) (.cons yInt_i (.cons yInt_i (.cons yInt_i (.cons yInt_i .nil)))) fun p3 H7 np6 c4 r5 => ?_
   have d8 : Dj F0 [p3] := Ty.nin r0 np6
   have n9 : ∀ a ∈ [p3], H0 a = none := one_fresh (c0.dom p3 np6)
   have r0 := Ty.ex r0 c4
   have c0 := c0.trans c4.none
   refine w_call ?_
   refine w_args (va_cons (val_var rfl) (va_cons val_c va_nil)) ?_
   obtain ⟨q10, hq10, hm⟩ := Mi.bnd hm
   refine ⟨v0, F0, d0, (4 : Int), q10, rfl, r0, hq10, fun H12 c11 r0 => ?_⟩
   have r5 := Ty.chg r5 c11 d8.symm
   have c0 := c0.join c11 (fun a h => .inl (h))
   obtain ⟨x13, hx13, hm⟩ := Mi.bnd hm
   refine w_ixL r5 hx13 fun u14 r15 => ?_
   obtain ⟨_, rfl⟩ := r15
   refine g_name (σ' := [some v0, some (.int d1), some (.int x13), none]) rfl ?_
   refine q_ret ?_
   refine w_lc ?_
   refine w_iRng1 ?_
   refine w_args (va_cons (val_var rfl) va_nil) ?_
   obtain ⟨g16, hg16, hm⟩ := Mi.bnd hm
   obtain ⟨e17, he17, hm⟩ := Mi.bnd hm
   refine kc_rng1 (K := K) (τ := yInt) hg16 (fun D19 i H' => ∃ (s18 : ((List Int) × (List Int))), Chg (F0) H0 H' ∧ (yLst yInt).rep K H' F0 v0 s18.2 ∧ (yLst yInt).rep K H' [D19] (.ref D19) s18.1 ∧ Dj F0 [D19] ∧ (∀ a ∈ [D19], H0 a = none) ∧ Mi.forN (Mi.m_l_schedule_b1 x13) s18 (List.drop i g16) = some e17) (fun D19 H26 np25 c24 r20 => ⟨(([] : (List Int)), q10.2), c0.trans c24.none, (Ty.ex r0 c24), r20, Ty.nin r0 np25, one_fresh (c0.dom D19 np25), he17⟩) (fun D19 i29 x28 H30 hx27 hp => ?_) (fun D19 H' np25 hp => ?_)
   ·
     obtain ⟨s18, c0, r0, r20, d21, n23, hle17⟩ := hp
     obtain ⟨_, hbe17, hle17⟩ := Mi.forN_go hle17 hx27
     unfold Mi.m_l_schedule_b1 at hbe17
     refine g_name (σ' := [some v0, some (.int d1), some (.int x13), some (.int x28)]) rfl ?_
     refine ⟨rfl, ?_⟩
     refine w_yes ?_
     refine iteT ?_
     refine w_call ?_
     refine w_args (va_cons (val_var rfl) (va_cons (val_var rfl) va_nil)) ?_
     obtain ⟨q37, hq37, hbe17⟩ := Mi.bnd hbe17
     refine ⟨v0, F0, s18.2, x13, q37, rfl, r0, hq37, fun H39 c38 r0 => ?_⟩
     have r20 := Ty.chg r20 c38 d21.symm
     have c0 := c0.join c38 (fun a h => .inl (h))
     obtain ⟨x40, hx40, hbe17⟩ := Mi.bnd hbe17
     refine e_app r20 yInt_i hx40 fun H42 c41 r20 => ?_
     have r0 := Ty.chg r0 c41 d21
     have c0 := c0.join c41 (fun a h => .inr (n23 a h))
     obtain rfl := Option.some.inj hbe17
     exact ⟨(x40, q37.2), c0, r0, r20, d21, n23, hle17⟩
   obtain ⟨s18, c0, r0, r20, d21, n23, hle17⟩ := hp
   obtain rfl := Mi.forN_end hle17
   obtain rfl := Option.some.inj hm
   exact hQ _ _ _ c0 r20 n23 r0
abbrev s_l_legs : Stmt := topS 44
abbrev N_l_legs : List Str := ["_law_hand_here", "_law_sailings_here", "_law_span"]
theorem sc_l_legs : FnScope ["_law_hand_here", "_law_sailings_here", "_law_span"] ["_law_hand_here", "_law_sailings_here"] (defScope s_l_legs) := ⟨rfl, rfl, rfl, by decide +kernel, rfl, by decide +kernel, by decide +kernel⟩
def sp_l_legs (K : PySem.W.Frag) : Sp := fun vs H Q _ => ∃ (v0 : V) (F0 : List Addr) (d0 : (List Int)) (v1 : V) (F1 : List Addr) (d1 : (List (Int × Int))) (r : ((List Int) × (List Int))), vs = [v0, v1] ∧ (yLst yInt).rep K H F0 v0 d0 ∧ (yLst (yTup (sCons yInt (sOne yInt)))).rep K H F1 v1 d1 ∧ Dj F0 F1 ∧ Mi.m_l_legs d0 d1 = some r ∧ ∀ v H' F, Chg (F0) H H' → (yLst yInt).rep K H' F v r.1 → (∀ a ∈ F, H a = none) → (yLst yInt).rep K H' F0 v0 r.2 → Q v H'
theorem ok_l_legs (B : Bi mg) (CN : Cs K mg) (D : Dfn K mg "_law_legs" s_l_legs) (C_l_pick : Cal P w K mg "_law_pick" ["_law_hand_here", "_law_size"] 1 (sp_l_pick K)) : Cal P w K mg "_law_legs" ["_law_hand_here", "_law_sailings_here"] 2 (sp_l_legs K) := by
 obtain ⟨f, fd, F, g⟩ := D.ex
 refine ⟨f, fd, g, F.kp, bindsF F (fun _ _ _ _ _ _ us hl => match us, hl with | [_, _], _ => rfl), fun base => F.ok sc_l_legs (fun vs H Q E h => ?_) (fun cdv A outer s H0 vs Q E hr h => ?_)⟩
 · obtain ⟨v0, F0, d0, v1, F1, d1, r, rfl, r0, r1, dd0_1, hm, hQ⟩ := h; rfl
 ·
   obtain ⟨v0, F0, d0, v1, F1, d1, r, rfl, r0, r1, dd0_1, hm, hQ⟩ := h
   refine ⟨_, pss_cons (ps_ret (pe_lc (own := [("_law_span", 2)]) rfl sc_l_legs.nd (pi_list (pv 1)) (blkOk_by (own := [("_law_span", 2)]) (N := N_l_legs) (sc := defScope s_l_legs) (by decide +kernel)) (fun _ _ _ _ _ => (pg_name (i := 2) sc_l_legs.nd rfl (.inl rfl))) (fun _ _ _ _ _ => pts_nil) (fun _ _ _ _ _ => (pe_op op_add (pe_ix (ix_t (K := K)) (pv 2) pe_int (fun _ _ => rfl)) (pe_cc C_l_pick hr (pa_cons (pv 0) (pa_cons (pe_op op_add (pe_op op_sub (pe_ix (ix_t (K := K)) (pv 2) pe_int (fun _ _ => rfl)) (pe_ix (ix_t (K := K)) (pv 2) pe_int (fun _ _ => rfl))) pe_int) pa_nil))))))) pss_nil, ?_⟩
   have c0 : Chg (F0) H0 H0 := Chg.refl H0
   unfold Mi.m_l_legs at hm
   refine q_ret ?_
   refine w_lc ?_
   refine w_iList ?_
   refine c_val (val_var rfl) ?_
   obtain ⟨e3, he3, hm⟩ := Mi.bnd hm
   refine kc_lst (K := K) (τ := yInt) r1 (fun D5 i H' => ∃ (s4 : ((List Int) × (List Int))), Chg (F0) H0 H' ∧ (yLst yInt).rep K H' F0 v0 s4.2 ∧ (yLst (yTup (sCons yInt (sOne yInt)))).rep K H' F1 v1 d1 ∧ (yLst yInt).rep K H' [D5] (.ref D5) s4.1 ∧ Dj F0 [D5] ∧ Dj F1 [D5] ∧ (∀ a ∈ [D5], H0 a = none) ∧ Mi.forN (Mi.m_l_legs_b1) s4 (List.drop i d1) = some e3) (fun D5 H13 np12 c11 r6 => ⟨(([] : (List Int)), d0), c0.trans c11.none, (Ty.ex r0 c11), (Ty.ex r1 c11), r6, Ty.nin r0 np12, Ty.nin r1 np12, one_fresh (c0.dom D5 np12), he3⟩) (fun D5 i H' hp => by obtain ⟨s4, c0, r0, r1, r6, d7, d8, n10, _⟩ := hp; exact r1) (fun D5 i16 x15 u18 H17 hx14 r19 hp => ?_) (fun D5 H' np12 hp => ?_)
   ·
     obtain ⟨s4, c0, r0, r1, r6, d7, d8, n10, hle3⟩ := hp
     obtain ⟨_, hbe3, hle3⟩ := Mi.forN_go hle3 hx14
     unfold Mi.m_l_legs_b1 at hbe3
     refine g_name (σ' := [some v0, some v1, some u18]) rfl ?_
     refine ⟨rfl, ?_⟩
     refine w_yes ?_
     refine iteT ?_
     refine w_op ?_
     obtain ⟨u24, F25, r26, su27, kx28, ku29⟩ := itm_tup (n := 0) at0 r19
     obtain ⟨rfl, rfl⟩ := r26
     refine c_val (ku29 (val_var rfl) val_c) ?_
     refine w_call ?_
     obtain ⟨u30, F31, r32, su33, kx34, ku35⟩ := itm_tup (n := 1) (atS at1) r19
     obtain ⟨rfl, rfl⟩ := r32
     obtain ⟨u36, F37, r38, su39, kx40, ku41⟩ := itm_tup (n := 0) at0 r19
     obtain ⟨rfl, rfl⟩ := r38
     refine w_args (va_cons (val_var rfl) (va_cons (val_add (val_sub (ku35 (val_var rfl) val_c) (ku41 (val_var rfl) val_c)) val_c) va_nil)) ?_
     obtain ⟨q42, hq42, hbe3⟩ := Mi.bnd hbe3
     refine ⟨v0, F0, s4.2, ((x15.2 - x15.1) + (1 : Int)), q42, rfl, r0, hq42, fun H44 c43 r0 => ?_⟩
     have r1 := Ty.chg r1 c43 dd0_1.symm
     have r19 := Ty.fz r19 c43
     have r6 := Ty.chg r6 c43 d7.symm
     have c0 := c0.join c43 (fun a h => .inl (h))
     refine w_I0 ?_
     obtain ⟨x45, hx45, hbe3⟩ := Mi.bnd hbe3
     refine e_app r6 yInt_i hx45 fun H47 c46 r6 => ?_
     have r0 := Ty.chg r0 c46 d7
     have r1 := Ty.chg r1 c46 d8
     have r19 := Ty.fz r19 c46
     have c0 := c0.join c46 (fun a h => .inr (n10 a h))
     obtain rfl := Option.some.inj hbe3
     exact ⟨(x45, q42.2), c0, r0, r1, r6, d7, d8, n10, hle3⟩
   obtain ⟨s4, c0, r0, r1, r6, d7, d8, n10, hle3⟩ := hp
   obtain rfl := Mi.forN_end hle3
   obtain rfl := Option.some.inj hm
   exact hQ _ _ _ c0 r6 n10 r0
abbrev s_l_gate_hours : Stmt := topS 45
abbrev N_l_gate_hours : List Str := ["_law_hand_here", "_law_near", "_law_width", "_law_kept", "_law_start", "_law_stop", "_law_hours", "_law_turn", "_law_more", "_law_hole", "_law_hour"]
theorem sc_l_gate_hours : FnScope ["_law_hand_here", "_law_near", "_law_width", "_law_kept", "_law_start", "_law_stop", "_law_hours", "_law_turn", "_law_more", "_law_hole", "_law_hour"] ["_law_hand_here", "_law_near", "_law_width", "_law_kept"] (defScope s_l_gate_hours) := ⟨rfl, rfl, rfl, by decide +kernel, rfl, by decide +kernel, by decide +kernel⟩
def sp_l_gate_hours (K : PySem.W.Frag) : Sp := fun vs H Q _ => ∃ (v0 : V) (F0 : List Addr) (d0 : (List Int)) (d1 : Int) (d2 : Int) (d3 : Int) (r : ((List Int) × (List Int))), vs = [v0, (.int d1), (.int d2), (.int d3)] ∧ (yLst yInt).rep K H F0 v0 d0 ∧ Mi.m_l_gate_hours d0 d1 d2 d3 = some r ∧ ∀ v H' F, Chg (F0) H H' → (yLst yInt).rep K H' F v r.1 → (∀ a ∈ F, H a = none) → (yLst yInt).rep K H' F0 v0 r.2 → Q v H'
theorem ok_l_gate_hours (B : Bi mg) (CN : Cs K mg) (D : Dfn K mg "_law_gate_hours" s_l_gate_hours) (C_l_pick : Cal P w K mg "_law_pick" ["_law_hand_here", "_law_size"] 1 (sp_l_pick K)) : Cal P w K mg "_law_gate_hours" ["_law_hand_here", "_law_near", "_law_width", "_law_kept"] 2 (sp_l_gate_hours K) := by
 obtain ⟨f, fd, F, g⟩ := D.ex
 refine ⟨f, fd, g, F.kp, bindsF F (fun _ _ _ _ _ _ us hl => match us, hl with | [_, _, _, _], _ => rfl), fun base => F.ok sc_l_gate_hours (fun vs H Q E h => ?_) (fun cdv A outer s H0 vs Q E hr h => ?_)⟩
 · obtain ⟨v0, F0, d0, d1, d2, d3, r, rfl, r0, hm, hQ⟩ := h; rfl
 ·
   obtain ⟨v0, F0, d0, d1, d2, d3, r, rfl, r0, hm, hQ⟩ := h
   refine ⟨_, pss_cons (ps_set (i := 4) sc_l_gate_hours.nd rfl (.inl rfl) (pe_op op_sub (pv 1) (pe_cc C_l_pick hr (pa_cons (pv 0) (pa_cons pe_int pa_nil)))))
     (pss_cons (ps_set (i := 5) sc_l_gate_hours.nd rfl (.inl rfl) (pe_op op_add (pe_op op_add (pv 1) (pv 2)) (pe_cc C_l_pick hr (pa_cons (pv 0) (pa_cons pe_int pa_nil)))))
     (pss_cons (ps_if (pt_cmpR op_eq (pv 3) pe_int (nomark _)) (pss_cons (ps_set (i := 4) sc_l_gate_hours.nd rfl (.inl rfl) (pe_op op_add (pv 4) (pe_cc C_l_pick hr (pa_cons (pv 0) (pa_cons pe_int pa_nil)))))
     (pss_cons (ps_set (i := 5) sc_l_gate_hours.nd rfl (.inl rfl) (pe_op op_sub (pv 5) (pe_cc C_l_pick hr (pa_cons (pv 0) (pa_cons pe_int pa_nil)))))
     (pss_nil))) (pss_nil))
     (pss_cons (ps_set (i := 6) sc_l_gate_hours.nd rfl (.inl rfl) (pe_listRg rfl (by rfl) B.list (prg_2 (by rfl) B.range (pe_callB (cl_max2 rfl) (by rfl) B.max (by decide +kernel) (pa_cons pe_int (pa_cons (pv 4) pa_nil))) (pe_op op_add (pe_callB (cl_min2 rfl) (by rfl) B.min (by decide +kernel) (pa_cons pe_int (pa_cons (pv 5) pa_nil))) pe_int))))
     (pss_cons (ps_for PassesOwn.never rfl (pi_range1 (by rfl) B.range (pa_cons (pe_cc C_l_pick hr (pa_cons (pv 0) (pa_cons (pe_ix (ix_l (K := K)) (pe_lst (pa_cons pe_int (pa_cons pe_int (pa_cons pe_int (pa_cons pe_int pa_nil))))) (pe_cc C_l_pick hr (pa_cons (pv 0) (pa_cons pe_int pa_nil))) (fun _ _ => rfl)) pa_nil))) pa_nil)) (pg_name (i := 7) sc_l_gate_hours.nd rfl (.inl rfl)) (pss_cons (ps_set (i := 8) sc_l_gate_hours.nd rfl (.inl rfl) (pe_cc C_l_pick hr (pa_cons (pv 0) (pa_cons pe_int pa_nil))))
     (pss_cons (ps_if (pt_cmpR (op_ni_q (K := K)) (pv 8) (pv 6) (by rfl)) (pss_cons (ps_expr (pe_bm PySem.F.plainAttrs_list PySem.F.slot_list_append PySem.F.type_list_append mt_append (pv 6) (pa_cons (pv 8) pa_nil)))
     (pss_nil)) (pss_nil))
     (pss_nil))))
     (pss_cons (ps_if (pt_cmpR op_eq (pv 3) pe_int (nomark _)) (pss_cons (ps_set (i := 9) sc_l_gate_hours.nd rfl (.inr rfl) (pe_op op_add (pv 1) (pe_cc C_l_pick hr (pa_cons (pv 0) (pa_cons (pe_op op_add (pv 2) pe_int) pa_nil)))))
     (pss_cons (ps_setLc (i := 6) (own := [("_law_hour", 10)]) rfl sc_l_gate_hours.nd rfl rfl (sw_true rfl rfl rfl (by decide +kernel)) (pi_list (pv 6)) (blkOk_by (own := [("_law_hour", 10)]) (N := N_l_gate_hours) (sc := defScope s_l_gate_hours) (by decide +kernel)) (fun _ _ _ _ _ => (pg_name (i := 10) sc_l_gate_hours.nd rfl (.inl rfl))) (fun _ _ _ _ _ => (pts_one (pt_cmpR op_ne (pv 10) (pv 9) (nomark _)))) (fun _ _ _ _ _ => (pv 10)))
     (pss_nil))) (pss_nil))
     (pss_cons (ps_ret (pv 6)) pss_nil)))))), ?_⟩
   have c0 : Chg (F0) H0 H0 := Chg.refl H0
   unfold Mi.m_l_gate_hours at hm
   refine q_asg ?_
   refine w_op ?_
   refine c_val (val_var rfl) ?_
   refine w_call ?_
   refine w_args (va_cons (val_var rfl) (va_cons val_c va_nil)) ?_
   obtain ⟨q5, hq5, hm⟩ := Mi.bnd hm
   refine ⟨v0, F0, d0, (4 : Int), q5, rfl, r0, hq5, fun H7 c6 r0 => ?_⟩
   have c0 := c0.join c6 (fun a h => .inl (h))
   refine w_I0 ?_
   obtain ⟨start8, hstart8, hm⟩ := Mi.letE hm
   refine g_nameE (congrArg V.int hstart8) (σ' := [some v0, some (.int d1), some (.int d2), some (.int d3), some (.int start8), none, none, none, none, none, none]) rfl ?_
   refine q_asg ?_
   refine w_op ?_
   refine c_val (val_add (val_var rfl) (val_var rfl)) ?_
   refine w_call ?_
   refine w_args (va_cons (val_var rfl) (va_cons val_c va_nil)) ?_
   obtain ⟨q9, hq9, hm⟩ := Mi.bnd hm
   refine ⟨v0, F0, q5.2, (4 : Int), q9, rfl, r0, hq9, fun H11 c10 r0 => ?_⟩
   have c0 := c0.join c10 (fun a h => .inl (h))
   refine w_I0 ?_
   obtain ⟨stop12, hstop12, hm⟩ := Mi.letE hm
   refine g_nameE (congrArg V.int hstop12) (σ' := [some v0, some (.int d1), some (.int d2), some (.int d3), some (.int start8), some (.int stop12), none, none, none, none, none]) rfl ?_
   obtain ⟨s13, hs13, hm⟩ := Mi.bnd hm
   refine s_join (R := fun σ' H' => σ' = [some v0, some (.int d1), some (.int d2), some (.int d3), some (.int s13.2.1), some (.int s13.2.2), none, none, none, none, none] ∧ Chg (F0) H0 H' ∧ (yLst yInt).rep K H' F0 v0 s13.1) (fun nx kx => ?_) (fun σ' H' hj => ?_)
   ·
     refine s_if (ans_t (val_eqI (val_var rfl) val_c)) (fun hb => ?_) (fun hb => ?_)
     ·
       replace hs13 := Mi.ifT hb hs13
       refine q_asg ?_
       refine w_op ?_
       refine c_val (val_var rfl) ?_
       refine w_call ?_
       refine w_args (va_cons (val_var rfl) (va_cons val_c va_nil)) ?_
       obtain ⟨q14, hq14, hs13⟩ := Mi.bnd hs13
       refine ⟨v0, F0, q9.2, (4 : Int), q14, rfl, r0, hq14, fun H16 c15 r0 => ?_⟩
       have c0 := c0.join c15 (fun a h => .inl (h))
       refine w_I0 ?_
       obtain ⟨start17, hstart17, hs13⟩ := Mi.letE hs13
       refine g_nameE (congrArg V.int hstart17) (σ' := [some v0, some (.int d1), some (.int d2), some (.int d3), some (.int start17), some (.int stop12), none, none, none, none, none]) rfl ?_
       refine q_asg ?_
       refine w_op ?_
       refine c_val (val_var rfl) ?_
       refine w_call ?_
       refine w_args (va_cons (val_var rfl) (va_cons val_c va_nil)) ?_
       obtain ⟨q18, hq18, hs13⟩ := Mi.bnd hs13
       refine ⟨v0, F0, q14.2, (4 : Int), q18, rfl, r0, hq18, fun H20 c19 r0 => ?_⟩
       have c0 := c0.join c19 (fun a h => .inl (h))
       refine w_I0 ?_
       obtain ⟨stop21, hstop21, hs13⟩ := Mi.letE hs13
       refine g_nameE (congrArg V.int hstop21) (σ' := [some v0, some (.int d1), some (.int d2), some (.int d3), some (.int start17), some (.int stop21), none, none, none, none, none]) rfl ?_
       refine w_nextJ ?_
       obtain rfl := Option.some.inj hs13
       exact kx _ _ ⟨rfl, c0, r0⟩
     ·
       replace hs13 := Mi.ifF hb hs13
       refine w_nextJ ?_
       obtain rfl := Option.some.inj hs13
       exact kx _ _ ⟨rfl, c0, r0⟩
   obtain ⟨rfl, c0, r0⟩ := hj
   refine q_asg ?_
   refine w_lrng2 ?_
   refine c_val (val_max2 val_c (val_var rfl)) ?_
   refine c_val (val_add (val_min2 val_c (val_var rfl)) val_c) ?_
   obtain ⟨g22, hg22, hm⟩ := Mi.bnd hm
   refine x_lrng2 (K := K) hg22 fun p23 H27 np26 c24 r25 => ?_
   have d28 : Dj F0 [p23] := Ty.nin r0 np26
   have n29 : ∀ a ∈ [p23], H0 a = none := one_fresh (c0.dom p23 np26)
   have r0 := Ty.ex r0 c24
   have c0 := c0.trans c24.none
   refine g_name (σ' := [some v0, some (.int d1), some (.int d2), some (.int d3), some (.int s13.2.1), some (.int s13.2.2), some (.ref p23), none, none, none, none]) rfl ?_
   refine q_for ?_
   refine w_iRng1 ?_
   refine w_cons ?_
   refine w_call ?_
   refine w_cons ?_
   refine c_val (val_var rfl) ?_
   refine w_cons ?_
   refine w_op ?_
   refine w_lst ?_
   refine w_args (va_cons val_c (va_cons val_c (va_cons val_c (va_cons val_c va_nil)))) ?_
   refine e_lst (K := K) (τ := yInt) (by exact Nat.le_of_ble_eq_true rfl) (.cons yInt_i (.cons yInt_i (.cons yInt_i (.cons yInt_i .nil)))) fun p30 H34 np33 c31 r32 => ?_
   have d35 : Dj F0 [p30] := Ty.nin r0 np33
   have d36 : Dj [p23] [p30] := Ty.nin r25 np33
   have n37 : ∀ a ∈ [p30], H0 a = none := one_fresh (c0.dom p30 np33)
   have r0 := Ty.ex r0 c31
   have r25 := Ty.ex r25 c31
   have c0 := c0.trans c31.none
   refine w_call ?_
   refine w_args (va_cons (val_var rfl) (va_cons val_c va_nil)) ?_
   obtain ⟨q38, hq38, hm⟩ := Mi.bnd hm
   refine ⟨v0, F0, s13.1, (4 : Int), q38, rfl, r0, hq38, fun H40 c39 r0 => ?_⟩
   have r25 := Ty.chg r25 c39 d28.symm
   have r32 := Ty.chg r32 c39 d35.symm
   have c0 := c0.join c39 (fun a h => .inl (h))
   obtain ⟨x41, hx41, hm⟩ := Mi.bnd hm
   refine w_ixL r32 hx41 fun u42 r43 => ?_
   obtain ⟨_, rfl⟩ := r43
   refine w_nil ?_
   obtain ⟨q44, hq44, hm⟩ := Mi.bnd hm
   refine ⟨v0, F0, q38.2, x41, q44, rfl, r0, hq44, fun H46 c45 r0 => ?_⟩
   have r25 := Ty.chg r25 c45 d28.symm
   have c0 := c0.join c45 (fun a h => .inl (h))
   refine w_nil ?_
   obtain ⟨g47, hg47, hm⟩ := Mi.bnd hm
   obtain ⟨e48, he48, hm⟩ := Mi.bnd hm
   refine l_rng1 hg47 (fun i σ' H' => ∃ (s49 : ((List Int) × (List Int))) (y50 : Option V) (y51 : Option V), σ' = [some v0, some (.int d1), some (.int d2), some (.int d3), some (.int s13.2.1), some (.int s13.2.2), some (.ref p23), y50, y51, none, none] ∧ Chg (F0) H0 H' ∧ (yLst yInt).rep K H' F0 v0 s49.1 ∧ (yLst yInt).rep K H' [p23] (.ref p23) s49.2 ∧ Mi.forN (Mi.m_l_gate_hours_b1) s49 (List.drop i g47) = some e48) ⟨(q44.2, g22), none, none, rfl, c0, r0, r25, he48⟩ (fun i54 x53 σ' H' hx52 hp => ?_) (fun σ' H' hp => ?_)
   ·
     obtain ⟨s49, y50, y51, rfl, c0, r0, r25, hle48⟩ := hp
     obtain ⟨_, hbe48, hle48⟩ := Mi.forN_go hle48 hx52
     unfold Mi.m_l_gate_hours_b1 at hbe48
     refine g_name (σ' := [some v0, some (.int d1), some (.int d2), some (.int d3), some (.int s13.2.1), some (.int s13.2.2), some (.ref p23), some (.int x53), y51, none, none]) rfl ?_
     refine q_asg ?_
     refine w_call ?_
     refine w_args (va_cons (val_var rfl) (va_cons val_c va_nil)) ?_
     obtain ⟨q55, hq55, hbe48⟩ := Mi.bnd hbe48
     refine ⟨v0, F0, s49.1, (201 : Int), q55, rfl, r0, hq55, fun H57 c56 r0 => ?_⟩
     have r25 := Ty.chg r25 c56 d28.symm
     have c0 := c0.join c56 (fun a h => .inl (h))
     refine g_name (σ' := [some v0, some (.int d1), some (.int d2), some (.int d3), some (.int s13.2.1), some (.int s13.2.2), some (.ref p23), some (.int x53), some (.int q55.1), none, none]) rfl ?_
     obtain ⟨s58, hs58, hbe48⟩ := Mi.bnd hbe48
     refine s_join (R := fun σ' H' => σ' = [some v0, some (.int d1), some (.int d2), some (.int d3), some (.int s13.2.1), some (.int s13.2.2), some (.ref p23), some (.int x53), some (.int q55.1), none, none] ∧ Chg (F0) H0 H' ∧ (yLst yInt).rep K H' F0 v0 q55.2 ∧ (yLst yInt).rep K H' [p23] (.ref p23) s58) (fun nx kx => ?_) (fun σ' H' hj => ?_)
     ·
       refine s_if (ans_t (val_niL r25 (val_var rfl) (val_var rfl))) (fun hb => ?_) (fun hb => ?_)
       ·
         replace hs58 := Mi.ifT hb hs58
         refine q_drop (w_bm (c_val (val_var rfl) ⟨tyv_lst r25, ?_⟩))
         refine w_args (va_cons (val_var rfl) va_nil) ?_
         obtain ⟨x59, hx59, hs58⟩ := Mi.bnd hs58
         refine m_app r25 yInt_i hx59 fun H61 c60 r25 => ?_
         have r0 := Ty.chg r0 c60 d28
         have c0 := c0.join c60 (fun a h => .inr (n29 a h))
         refine w_nextJ ?_
         obtain rfl := Option.some.inj hs58
         exact kx _ _ ⟨rfl, c0, r0, r25⟩
       ·
         replace hs58 := Mi.ifF hb hs58
         refine w_nextJ ?_
         obtain rfl := Option.some.inj hs58
         exact kx _ _ ⟨rfl, c0, r0, r25⟩
     obtain ⟨rfl, c0, r0, r25⟩ := hj
     refine w_nextJ ?_
     obtain rfl := Option.some.inj hbe48
     exact ⟨_, (some (.int x53)), (some (.int q55.1)), rfl, c0, r0, r25, hle48⟩
   obtain ⟨s49, y50, y51, rfl, c0, r0, r25, hle48⟩ := hp
   obtain rfl := Mi.forN_end hle48
   obtain ⟨s62, hs62, hm⟩ := Mi.bnd hm
   refine s_join (R := fun σ' H' => ∃ (y67 : Option V) (v63 : V) (F65 : List Addr), σ' = [some v0, some (.int d1), some (.int d2), some (.int d3), some (.int s13.2.1), some (.int s13.2.2), some v63, y50, y51, y67, none] ∧ Chg (F0) H0 H' ∧ (yLst yInt).rep K H' F0 v0 s62.1 ∧ (yLst yInt).rep K H' F65 v63 s62.2 ∧ (∀ a ∈ F65, H0 a = none) ∧ Dj F65 F0) (fun nx kx => ?_) (fun σ' H' hj => ?_)
   ·
     refine s_if (ans_t (val_eqI (val_var rfl) val_c)) (fun hb => ?_) (fun hb => ?_)
     ·
       replace hs62 := Mi.ifT hb hs62
       refine q_asg ?_
       refine w_op ?_
       refine c_val (val_var rfl) ?_
       refine w_call ?_
       refine w_args (va_cons (val_var rfl) (va_cons (val_add (val_var rfl) val_c) va_nil)) ?_
       obtain ⟨q69, hq69, hs62⟩ := Mi.bnd hs62
       refine ⟨v0, F0, s49.1, (d2 + (3 : Int)), q69, rfl, r0, hq69, fun H71 c70 r0 => ?_⟩
       have r25 := Ty.chg r25 c70 d28.symm
       have c0 := c0.join c70 (fun a h => .inl (h))
       refine w_I0 ?_
       obtain ⟨hole72, hhole72, hs62⟩ := Mi.letE hs62
       refine g_nameE (congrArg V.int hhole72) (σ' := [some v0, some (.int d1), some (.int d2), some (.int d3), some (.int s13.2.1), some (.int s13.2.2), some (.ref p23), y50, y51, some (.int hole72), none]) rfl ?_
       refine q_asg ?_
       refine w_lc ?_
       refine w_iList ?_
       refine c_val (val_var rfl) ?_
       obtain ⟨e73, he73, hs62⟩ := Mi.bnd hs62
       refine kc_lst (K := K) (τ := yInt) r25 (fun D75 i H' => ∃ (s74 : (List Int)), Chg (F0) H0 H' ∧ (yLst yInt).rep K H' F0 v0 q69.2 ∧ (yLst yInt).rep K H' [p23] (.ref p23) s49.2 ∧ (yLst yInt).rep K H' [D75] (.ref D75) s74 ∧ Dj F0 [D75] ∧ Dj [p23] [D75] ∧ (∀ a ∈ [D75], H0 a = none) ∧ Mi.forN (Mi.m_l_gate_hours_b2 hole72) s74 (List.drop i s49.2) = some e73) (fun D75 H83 np82 c81 r76 => ⟨([] : (List Int)), c0.trans c81.none, (Ty.ex r0 c81), (Ty.ex r25 c81), r76, Ty.nin r0 np82, Ty.nin r25 np82, one_fresh (c0.dom D75 np82), he73⟩) (fun D75 i H' hp => by obtain ⟨s74, c0, r0, r25, r76, d77, d78, n80, _⟩ := hp; exact r25) (fun D75 i86 x85 u88 H87 hx84 r89 hp => ?_) (fun D75 H' np82 hp => ?_)
       ·
         obtain ⟨s74, c0, r0, r25, r76, d77, d78, n80, hle73⟩ := hp
         obtain ⟨_, hbe73, hle73⟩ := Mi.forN_go hle73 hx84
         unfold Mi.m_l_gate_hours_b2 at hbe73
         obtain ⟨_, rfl⟩ := r89
         refine g_name (σ' := [some v0, some (.int d1), some (.int d2), some (.int d3), some (.int s13.2.1), some (.int s13.2.2), some (.ref p23), y50, y51, some (.int hole72), some (.int x85)]) rfl ?_
         refine ⟨rfl, ?_⟩
         refine c_ans (ans_t (val_neI (val_var rfl) (val_var rfl))) ?_
         refine c_if (fun hb => ?_) (fun hb => ?_)
         ·
           replace hbe73 := Mi.ifT hb hbe73
           refine c_val (val_var rfl) ?_
           obtain ⟨x94, hx94, hbe73⟩ := Mi.bnd hbe73
           refine e_app r76 yInt_i hx94 fun H96 c95 r76 => ?_
           have r0 := Ty.chg r0 c95 d77
           have r25 := Ty.chg r25 c95 d78
           have c0 := c0.join c95 (fun a h => .inr (n80 a h))
           obtain rfl := Option.some.inj hbe73
           exact ⟨x94, c0, r0, r25, r76, d77, d78, n80, hle73⟩
         ·
           replace hbe73 := Mi.ifF hb hbe73
           obtain rfl := Option.some.inj hbe73
           exact ⟨s74, c0, r0, r25, r76, d77, d78, n80, hle73⟩
       obtain ⟨s74, c0, r0, r25, r76, d77, d78, n80, hle73⟩ := hp
       obtain rfl := Mi.forN_end hle73
       refine g_name (σ' := [some v0, some (.int d1), some (.int d2), some (.int d3), some (.int s13.2.1), some (.int s13.2.2), some (.ref D75), y50, y51, some (.int hole72), none]) rfl ?_
       refine w_nextJ ?_
       obtain rfl := Option.some.inj hs62
       exact kx _ _ ⟨(some (.int hole72)), (.ref D75), [D75], rfl, c0, r0, r76, n80, d77.symm⟩
     ·
       replace hs62 := Mi.ifF hb hs62
       refine w_nextJ ?_
       obtain rfl := Option.some.inj hs62
       exact kx _ _ ⟨none, (.ref p23), [p23], rfl, c0, r0, r25, n29, d28.symm⟩
   obtain ⟨y67, v63, F65, rfl, c0, r0, r64, n66, d68⟩ := hj
   refine q_ret ?_
   refine c_val (val_var rfl) ?_
   obtain rfl := Option.some.inj hm
   exact hQ _ _ _ c0 r64 n66 r0
abbrev s_l_number : Stmt := topS 46
theorem sc_l_number : FnScope ["_law_hand_here", "_law_edge", "_law_sign", "_law_kept", "_law_least", "_law_most", "_law_number_here"] ["_law_hand_here", "_law_edge", "_law_sign", "_law_kept", "_law_least", "_law_most"] (defScope s_l_number) := ⟨rfl, rfl, rfl, by decide +kernel, rfl, by decide +kernel, by decide +kernel⟩
def sp_l_number (K : PySem.W.Frag) : Sp := fun vs H Q _ => ∃ (v0 : V) (F0 : List Addr) (d0 : (List Int)) (d1 : Int) (d2 : Int) (d3 : Int) (d4 : Int) (d5 : Int) (r : (Int × (List Int))), vs = [v0, (.int d1), (.int d2), (.int d3), (.int d4), (.int d5)] ∧ (yLst yInt).rep K H F0 v0 d0 ∧ Mi.m_l_number d0 d1 d2 d3 d4 d5 = some r ∧ ∀ H', Chg (F0) H H' → (yLst yInt).rep K H' F0 v0 r.2 → Q (.int r.1) H'
theorem ok_l_number (B : Bi mg) (CN : Cs K mg) (D : Dfn K mg "_law_number" s_l_number) (C_l_pick : Cal P w K mg "_law_pick" ["_law_hand_here", "_law_size"] 1 (sp_l_pick K)) : Cal P w K mg "_law_number" ["_law_hand_here", "_law_edge", "_law_sign", "_law_kept", "_law_least", "_law_most"] 2 (sp_l_number K) := by
 obtain ⟨f, fd, F, g⟩ := D.ex
 refine ⟨f, fd, g, F.kp, bindsF F (fun _ _ _ _ _ _ us hl => match us, hl with | [_, _, _, _, _, _], _ => rfl), fun base => F.ok sc_l_number (fun vs H Q E h => ?_) (fun cdv A outer s H0 vs Q E hr h => ?_)⟩
 · obtain ⟨v0, F0, d0, d1, d2, d3, d4, d5, r, rfl, r0, hm, hQ⟩ := h; rfl
 ·
   obtain ⟨v0, F0, d0, d1, d2, d3, d4, d5, r, rfl, r0, hm, hQ⟩ := h
   refine ⟨_, pss_cons (ps_set (i := 6) sc_l_number.nd rfl (.inl rfl) (pe_op op_add (pv 1) (pe_op op_mul (pv 2) (pe_op op_sub (pe_cc C_l_pick hr (pa_cons (pv 0) (pa_cons pe_int pa_nil))) (pe_ix (ix_l (K := K)) (pe_lst (pa_cons pe_int (pa_cons pe_int pa_nil))) (pv 3) (fun _ _ => rfl))))))
     (pss_cons (ps_if (PW.pt (pw_and (pt_cmpR op_eq (pv 3) pe_int (nomark _)) (pw_and1 (pt_cmpR op_eq (pe_cc C_l_pick hr (pa_cons (pv 0) (pa_cons pe_int pa_nil))) pe_int (nomark _))))) (pss_cons (ps_set (i := 6) sc_l_number.nd rfl (.inl rfl) (pe_op op_add (pv 4) (pe_cc C_l_pick hr (pa_cons (pv 0) (pa_cons (pe_op op_add (pe_op op_sub (pv 5) (pv 4)) pe_int) pa_nil)))))
     (pss_nil)) (pss_nil))
     (pss_cons (ps_ret (pe_callB (cl_max2 rfl) (by rfl) B.max (by decide +kernel) (pa_cons (pv 4) (pa_cons (pe_callB (cl_min2 rfl) (by rfl) B.min (by decide +kernel) (pa_cons (pv 5) (pa_cons (pv 6) pa_nil))) pa_nil)))) pss_nil)), ?_⟩
   have c0 : Chg (F0) H0 H0 := Chg.refl H0
   unfold Mi.m_l_number at hm
   refine q_asg ?_
   refine w_op ?_
   refine c_val (val_var rfl) ?_
   refine w_op ?_
   refine c_val (val_var rfl) ?_
   refine w_op ?_
   refine w_call ?_
   refine w_args (va_cons (val_var rfl) (va_cons val_c va_nil)) ?_
   obtain ⟨q7, hq7, hm⟩ := Mi.bnd hm
   refine ⟨v0, F0, d0, (5 : Int), q7, rfl, r0, hq7, fun H9 c8 r0 => ?_⟩
   have c0 := c0.join c8 (fun a h => .inl (h))
   refine w_op ?_
   refine w_lst ?_
   refine w_args (va_cons val_c (va_cons val_c va_nil)) ?_
   refine e_lst (K := K) (τ := yInt) (by exact Nat.le_of_ble_eq_true rfl) (.cons yInt_i (.cons yInt_i .nil)) fun p10 H14 np13 c11 r12 => ?_
   have d15 : Dj F0 [p10] := Ty.nin r0 np13
   have n16 : ∀ a ∈ [p10], H0 a = none := one_fresh (c0.dom p10 np13)
   have r0 := Ty.ex r0 c11
   have c0 := c0.trans c11.none
   refine c_val (val_var rfl) ?_
   obtain ⟨x17, hx17, hm⟩ := Mi.bnd hm
   refine w_ixL r12 hx17 fun u18 r19 => ?_
   obtain ⟨_, rfl⟩ := r19
   refine w_I0 ?_
   obtain ⟨x20, hx20, hm⟩ := Mi.bnd hm
   refine w_mul hx20 ?_
   refine w_I0 ?_
   obtain ⟨numberhere21, hnumberhere21, hm⟩ := Mi.letE hm
   refine g_nameE (congrArg V.int hnumberhere21) (σ' := [some v0, some (.int d1), some (.int d2), some (.int d3), some (.int d4), some (.int d5), some (.int numberhere21)]) rfl ?_
   obtain ⟨s22, hs22, hm⟩ := Mi.bnd hm
   refine s_join (R := fun σ' H' => σ' = [some v0, some (.int d1), some (.int d2), some (.int d3), some (.int d4), some (.int d5), some (.int s22.2)] ∧ Chg (F0) H0 H' ∧ (yLst yInt).rep K H' F0 v0 s22.1) (fun nx kx => ?_) (fun σ' H' hj => ?_)
   ·
     refine w_ifS ?_
     obtain ⟨b23, hb23, hs22⟩ := Mi.bnd hs22
     refine j_tt b23.1 (R := fun H' => Chg (F0) H0 H' ∧ (yLst yInt).rep K H' F0 v0 b23.2) (fun Q' kq => ?_) (fun H' hj => ?_)
     ·
       refine w_and ?_
       refine c_ans (ans_t (val_eqI (val_var rfl) val_c)) ?_
       refine c_if (fun hb => ?_) (fun hb => ?_)
       rotate_left
       ·
         replace hb23 := Mi.ifF hb hb23
         obtain rfl := Option.some.inj hb23
         exact kq _ ⟨c0, r0⟩
       replace hb23 := Mi.ifT hb hb23
       refine w_test ?_
       refine w_op ?_
       refine w_call ?_
       refine w_args (va_cons (val_var rfl) (va_cons val_c va_nil)) ?_
       obtain ⟨q24, hq24, hb23⟩ := Mi.bnd hb23
       refine ⟨v0, F0, q7.2, (4 : Int), q24, rfl, r0, hq24, fun H26 c25 r0 => ?_⟩
       have c0 := c0.join c25 (fun a h => .inl (h))
       refine c_val val_c ?_
       refine w_eqI ?_
       refine ⟨_, rfl, ?_⟩
       obtain rfl := Option.some.inj hb23
       exact kq _ ⟨c0, r0⟩
     obtain ⟨c0, r0⟩ := hj
     refine c_if (fun hb => ?_) (fun hb => ?_)
     ·
       replace hs22 := Mi.ifT hb hs22
       refine q_asg ?_
       refine w_op ?_
       refine c_val (val_var rfl) ?_
       refine w_call ?_
       refine w_args (va_cons (val_var rfl) (va_cons (val_add (val_sub (val_var rfl) (val_var rfl)) val_c) va_nil)) ?_
       obtain ⟨q27, hq27, hs22⟩ := Mi.bnd hs22
       refine ⟨v0, F0, b23.2, ((d5 - d4) + (1 : Int)), q27, rfl, r0, hq27, fun H29 c28 r0 => ?_⟩
       have c0 := c0.join c28 (fun a h => .inl (h))
       refine w_I0 ?_
       obtain ⟨numberhere30, hnumberhere30, hs22⟩ := Mi.letE hs22
       refine g_nameE (congrArg V.int hnumberhere30) (σ' := [some v0, some (.int d1), some (.int d2), some (.int d3), some (.int d4), some (.int d5), some (.int numberhere30)]) rfl ?_
       refine w_nextJ ?_
       obtain rfl := Option.some.inj hs22
       exact kx _ _ ⟨rfl, c0, r0⟩
     ·
       replace hs22 := Mi.ifF hb hs22
       refine w_nextJ ?_
       obtain rfl := Option.some.inj hs22
       exact kx _ _ ⟨rfl, c0, r0⟩
   obtain ⟨rfl, c0, r0⟩ := hj
   refine q_ret ?_
   refine c_val (val_max2 (val_var rfl) (val_min2 (val_var rfl) (val_var rfl))) ?_
   obtain rfl := Option.some.inj hm
   exact hQ _ c0 r0
abbrev s_l_plain : Stmt := topS 47
theorem sc_l_plain : FnScope ["_law_hand_here", "_law_spans", "_law_schedule_here", "_law_kept", "_law_count", "_law_kind", "_law_i", "_law_low", "_law_high", "_law_edge", "_law_j", "_law_late"] ["_law_hand_here", "_law_spans", "_law_schedule_here", "_law_kept"] (defScope s_l_plain) := ⟨rfl, rfl, rfl, by decide +kernel, rfl, by decide +kernel, by decide +kernel⟩
def sp_l_plain (K : PySem.W.Frag) : Sp := fun vs H Q _ => ∃ (v0 : V) (F0 : List Addr) (d0 : (List Int)) (v1 : V) (F1 : List Addr) (d1 : (List (Int × Int))) (v2 : V) (d2 : (List Int)) (d3 : Int) (r : (((List Nat) × Int × Int × Int × (List Int)) × (List Int))), vs = [v0, v1, v2, (.int d3)] ∧ (yLst yInt).rep K H F0 v0 d0 ∧ (yLst (yTup (sCons yInt (sOne yInt)))).rep K H F1 v1 d1 ∧ (yFl yInt).rep K H [] v2 d2 ∧ Dj F0 F1 ∧ Mi.m_l_plain d0 d1 d2 d3 = some r ∧ ∀ v H' F, Chg (F0) H H' → (yTup (sCons yStr (sCons yInt (sCons yInt (sCons yInt (sOne (yLst yInt))))))).rep K H' F v r.1 → (∀ a ∈ F, H a = none) → (yLst yInt).rep K H' F0 v0 r.2 → Q v H'
theorem ok_l_plain (B : Bi mg) (CN : Cs K mg) (D : Dfn K mg "_law_plain" s_l_plain) (C_l_pick : Cal P w K mg "_law_pick" ["_law_hand_here", "_law_size"] 1 (sp_l_pick K)) (C_l_gate_hours : Cal P w K mg "_law_gate_hours" ["_law_hand_here", "_law_near", "_law_width", "_law_kept"] 2 (sp_l_gate_hours K)) (C_l_number : Cal P w K mg "_law_number" ["_law_hand_here", "_law_edge", "_law_sign", "_law_kept", "_law_least", "_law_most"] 2 (sp_l_number K)) : Cal P w K mg "_law_plain" ["_law_hand_here", "_law_spans", "_law_schedule_here", "_law_kept"] 3 (sp_l_plain K) := by
 obtain ⟨f, fd, F, g⟩ := D.ex
 refine ⟨f, fd, g, F.kp, bindsF F (fun _ _ _ _ _ _ us hl => match us, hl with | [_, _, _, _], _ => rfl), fun base => F.ok sc_l_plain (fun vs H Q E h => ?_) (fun cdv A outer s H0 vs Q E hr h => ?_)⟩
 · obtain ⟨v0, F0, d0, v1, F1, d1, v2, d2, d3, r, rfl, r0, r1, r2, dd0_1, hm, hQ⟩ := h; rfl
 ·
   obtain ⟨v0, F0, d0, v1, F1, d1, v2, d2, d3, r, rfl, r0, r1, r2, dd0_1, hm, hQ⟩ := h
   refine ⟨_, pss_cons (ps_set (i := 4) sc_l_plain.nd rfl (.inl rfl) (pe_callB (cl_len (K := K)) (by rfl) B.len PySem.boot_len (pa_cons (pv 1) pa_nil)))
     (pss_cons (ps_set (i := 5) sc_l_plain.nd rfl (.inl rfl) (pe_cc C_l_pick hr (pa_cons (pv 0) (pa_cons pe_int pa_nil))))
     (pss_cons (ps_if (pt_cmpR op_eq (pv 4) pe_int (nomark _)) (pss_cons (ps_set (i := 5) sc_l_plain.nd rfl (.inl rfl) (pe_op op_add pe_int (pe_op op_mod (pe_callTy cl_int (by rfl) B.int (by decide +kernel) (pa_cons (pv 5) pa_nil)) pe_int)))
     (pss_nil)) (pss_nil))
     (pss_cons (ps_set (i := 6) sc_l_plain.nd rfl (.inl rfl) (pe_cc C_l_pick hr (pa_cons (pv 0) (pa_cons (pv 4) pa_nil))))
     (pss_cons (ps_if (pt_cmpR op_gt (pv 5) pe_int (nomark _)) (pss_cons (ps_set (i := 7) sc_l_plain.nd rfl (.inl rfl) (pe_ix (ix_l (K := K)) (pe_lst (pa_cons pe_int (pa_cons (pe_ix (ix_t (K := K)) (pe_ix (ix_l (K := K)) (pv 1) (pv 6) (fun _ _ => rfl)) pe_int (fun _ _ => rfl)) pa_nil))) (pe_op op_sub (pv 5) pe_int) (fun _ _ => rfl)))
     (pss_cons (ps_set (i := 8) sc_l_plain.nd rfl (.inl rfl) (pe_ix (ix_l (K := K)) (pe_lst (pa_cons pe_int (pa_cons (pe_ix (ix_t (K := K)) (pe_ix (ix_l (K := K)) (pv 1) (pv 6) (fun _ _ => rfl)) pe_int (fun _ _ => rfl)) pa_nil))) (pe_op op_sub (pv 5) pe_int) (fun _ _ => rfl)))
     (pss_cons (ps_ret (pe_tup (pa_cons (pe_ix (ix_l (K := K)) (pe_lst (pa_cons pe_str (pa_cons pe_str pa_nil))) (pe_op op_sub (pv 5) pe_int) (fun _ _ => rfl)) (pa_cons (pv 6) (pa_cons (pv 6) (pa_cons pe_int (pa_cons (pe_cc C_l_gate_hours hr (pa_cons (pv 0) (pa_cons (pe_op op_add (pe_ix (ix_l (K := K)) (pv 2) (pv 6) (fun _ _ => rfl)) (pv 7)) (pa_cons (pe_op op_sub (pv 8) (pv 7)) (pa_cons (pv 3) pa_nil))))) pa_nil))))))) pss_nil))) (pss_nil))
     (pss_cons (ps_if (pt_cmpR op_gt (pv 5) pe_int (nomark _)) (pss_cons (ps_set (i := 9) sc_l_plain.nd rfl (.inl rfl) (pe_ix (ix_l (K := K)) (pe_lst (pa_cons (pe_op op_add (pe_ix (ix_l (K := K)) (pv 2) (pv 6) (fun _ _ => rfl)) (pe_ix (ix_t (K := K)) (pe_ix (ix_l (K := K)) (pv 1) (pv 6) (fun _ _ => rfl)) pe_int (fun _ _ => rfl))) (pa_cons (pe_ix (ix_l (K := K)) (pv 2) (pv 6) (fun _ _ => rfl)) pa_nil))) (pe_op op_sub (pv 5) pe_int) (fun _ _ => rfl)))
     (pss_cons (ps_ret (pe_tup (pa_cons (pe_ix (ix_l (K := K)) (pe_lst (pa_cons pe_str (pa_cons pe_str pa_nil))) (pe_op op_sub (pv 5) pe_int) (fun _ _ => rfl)) (pa_cons (pv 6) (pa_cons (pv 6) (pa_cons (pe_cc C_l_number hr (pa_cons (pv 0) (pa_cons (pv 9) (pa_cons (pe_ix (ix_l (K := K)) (pe_lst (pa_cons pe_int (pa_cons (pe_un un_neg pe_int) pa_nil))) (pe_op op_sub (pv 5) pe_int) (fun _ _ => rfl)) (pa_cons (pv 3) (pa_cons pe_int (pa_cons pe_int pa_nil))))))) (pa_cons (pe_lst pa_nil) pa_nil))))))) pss_nil)) (pss_nil))
     (pss_cons (ps_set (i := 10) sc_l_plain.nd rfl (.inl rfl) (pe_op op_mod (pe_callTy cl_int (by rfl) B.int (by decide +kernel) (pa_cons (pe_op op_add (pe_op op_add (pv 6) pe_int) (pe_cc C_l_pick hr (pa_cons (pv 0) (pa_cons (pe_op op_sub (pv 4) pe_int) pa_nil)))) pa_nil)) (pv 4)))
     (pss_cons (ps_set (i := 11) sc_l_plain.nd rfl (.inl rfl) (pe_op op_sub (pe_ix (ix_l (K := K)) (pv 2) (pv 10) (fun _ _ => rfl)) (pe_ix (ix_l (K := K)) (pv 2) (pv 6) (fun _ _ => rfl))))
     (pss_cons (ps_set (i := 9) sc_l_plain.nd rfl (.inl rfl) (pe_ix (ix_l (K := K)) (pe_lst (pa_cons (pe_op op_sub (pv 11) (pe_ix (ix_t (K := K)) (pe_ix (ix_l (K := K)) (pv 1) (pv 6) (fun _ _ => rfl)) pe_int (fun _ _ => rfl))) (pa_cons (pv 11) (pa_cons (pe_op op_sub (pe_op op_add (pv 11) (pe_ix (ix_t (K := K)) (pe_ix (ix_l (K := K)) (pv 1) (pv 10) (fun _ _ => rfl)) pe_int (fun _ _ => rfl))) (pe_ix (ix_t (K := K)) (pe_ix (ix_l (K := K)) (pv 1) (pv 6) (fun _ _ => rfl)) pe_int (fun _ _ => rfl))) pa_nil)))) (pv 5) (fun _ _ => rfl)))
     (pss_cons (ps_ret (pe_tup (pa_cons (pe_ix (ix_l (K := K)) (pe_lst (pa_cons pe_str (pa_cons pe_str (pa_cons pe_str pa_nil)))) (pv 5) (fun _ _ => rfl)) (pa_cons (pv 6) (pa_cons (pv 10) (pa_cons (pe_cc C_l_number hr (pa_cons (pv 0) (pa_cons (pv 9) (pa_cons (pe_ix (ix_l (K := K)) (pe_lst (pa_cons (pe_un un_neg pe_int) (pa_cons pe_int (pa_cons pe_int pa_nil)))) (pv 5) (fun _ _ => rfl)) (pa_cons (pv 3) (pa_cons (pe_un un_neg pe_int) (pa_cons pe_int pa_nil))))))) (pa_cons (pe_lst pa_nil) pa_nil))))))) pss_nil))))))))), ?_⟩
   have c0 : Chg (F0) H0 H0 := Chg.refl H0
   unfold Mi.m_l_plain at hm
   obtain ⟨count5, hcount5, hm⟩ := Mi.letE hm
   refine q_setE (val_lenL r1 (val_var rfl)) (congrArg V.int hcount5) (σ' := [some v0, some v1, some v2, some (.int d3), some (.int count5), none, none, none, none, none, none, none]) rfl ?_
   refine q_asg ?_
   refine w_call ?_
   refine w_args (va_cons (val_var rfl) (va_cons val_c va_nil)) ?_
   obtain ⟨q6, hq6, hm⟩ := Mi.bnd hm
   refine ⟨v0, F0, d0, (7 : Int), q6, rfl, r0, hq6, fun H8 c7 r0 => ?_⟩
   have r1 := Ty.chg r1 c7 dd0_1.symm
   have r2 := Ty.fz r2 c7
   have c0 := c0.join c7 (fun a h => .inl (h))
   refine g_name (σ' := [some v0, some v1, some v2, some (.int d3), some (.int count5), some (.int q6.1), none, none, none, none, none, none]) rfl ?_
   obtain ⟨s9, hs9, hm⟩ := Mi.bnd hm
   refine s_join (R := fun σ' H' => σ' = [some v0, some v1, some v2, some (.int d3), some (.int count5), some (.int s9), none, none, none, none, none, none] ∧ Chg (F0) H0 H' ∧ (yLst yInt).rep K H' F0 v0 q6.2 ∧ (yLst (yTup (sCons yInt (sOne yInt)))).rep K H' F1 v1 d1 ∧ (yFl yInt).rep K H' [] v2 d2) (fun nx kx => ?_) (fun σ' H' hj => ?_)
   ·
     refine s_if (ans_t (val_eqI (val_var rfl) val_c)) (fun hb => ?_) (fun hb => ?_)
     ·
       replace hs9 := Mi.ifT hb hs9
       obtain ⟨kind10, hkind10, hs9⟩ := Mi.letE hs9
       refine q_setE (val_add val_c (val_modc (val_int (val_var rfl)) val_c (by decide))) (congrArg V.int hkind10) (σ' := [some v0, some v1, some v2, some (.int d3), some (.int count5), some (.int kind10), none, none, none, none, none, none]) rfl ?_
       refine w_nextJ ?_
       obtain rfl := Option.some.inj hs9
       exact kx _ _ ⟨rfl, c0, r0, r1, r2⟩
     ·
       replace hs9 := Mi.ifF hb hs9
       refine w_nextJ ?_
       obtain rfl := Option.some.inj hs9
       exact kx _ _ ⟨rfl, c0, r0, r1, r2⟩
   obtain ⟨rfl, c0, r0, r1, r2⟩ := hj
   refine q_asg ?_
   refine w_call ?_
   refine w_args (va_cons (val_var rfl) (va_cons (val_var rfl) va_nil)) ?_
   obtain ⟨q11, hq11, hm⟩ := Mi.bnd hm
   refine ⟨v0, F0, q6.2, count5, q11, rfl, r0, hq11, fun H13 c12 r0 => ?_⟩
   have r1 := Ty.chg r1 c12 dd0_1.symm
   have r2 := Ty.fz r2 c12
   have c0 := c0.join c12 (fun a h => .inl (h))
   refine g_name (σ' := [some v0, some v1, some v2, some (.int d3), some (.int count5), some (.int s9), some (.int q11.1), none, none, none, none, none]) rfl ?_
   refine q_if (ans_t (val_gt (val_var rfl) val_c)) (fun hb => ?_) (fun hb => ?_)
   ·
     replace hm := Mi.ifT hb hm
     refine q_asg ?_
     refine w_op ?_
     refine w_lst ?_
     obtain ⟨x14, hx14, hm⟩ := Mi.bnd hm
     obtain ⟨u15, r16, ku17⟩ := itm_L r1 hx14
     obtain ⟨u18, F19, r20, su21, kx22, ku23⟩ := itm_tup (n := 0) at0 r16
     obtain ⟨rfl, rfl⟩ := r20
     refine w_args (va_cons val_c (va_cons (ku23 (ku17 (val_var rfl) (val_var rfl)) val_c) va_nil)) ?_
     refine e_lst (K := K) (τ := yInt) (by exact Nat.le_of_ble_eq_true rfl) (.cons yInt_i (.cons yInt_i .nil)) fun p24 H28 np27 c25 r26 => ?_
     have d29 : Dj F0 [p24] := Ty.nin r0 np27
     have d30 : Dj F1 [p24] := Ty.nin r1 np27
     have n31 : ∀ a ∈ [p24], H0 a = none := one_fresh (c0.dom p24 np27)
     have r0 := Ty.ex r0 c25
     have r1 := Ty.ex r1 c25
     have r2 := Ty.fz r2 c25
     have c0 := c0.trans c25.none
     refine c_val (val_sub (val_var rfl) val_c) ?_
     obtain ⟨x32, hx32, hm⟩ := Mi.bnd hm
     refine w_ixL r26 hx32 fun u33 r34 => ?_
     obtain ⟨_, rfl⟩ := r34
     refine g_name (σ' := [some v0, some v1, some v2, some (.int d3), some (.int count5), some (.int s9), some (.int q11.1), some (.int x32), none, none, none, none]) rfl ?_
     refine q_asg ?_
     refine w_op ?_
     refine w_lst ?_
     obtain ⟨x35, hx35, hm⟩ := Mi.bnd hm
     obtain ⟨u36, r37, ku38⟩ := itm_L r1 hx35
     obtain ⟨u39, F40, r41, su42, kx43, ku44⟩ := itm_tup (n := 1) (atS at1) r37
     obtain ⟨rfl, rfl⟩ := r41
     refine w_args (va_cons val_c (va_cons (ku44 (ku38 (val_var rfl) (val_var rfl)) val_c) va_nil)) ?_
     refine e_lst (K := K) (τ := yInt) (by exact Nat.le_of_ble_eq_true rfl) (.cons yInt_i (.cons yInt_i .nil)) fun p45 H49 np48 c46 r47 => ?_
     have d50 : Dj F0 [p45] := Ty.nin r0 np48
     have d51 : Dj F1 [p45] := Ty.nin r1 np48
     have n52 : ∀ a ∈ [p45], H0 a = none := one_fresh (c0.dom p45 np48)
     have r0 := Ty.ex r0 c46
     have r1 := Ty.ex r1 c46
     have r2 := Ty.fz r2 c46
     have c0 := c0.trans c46.none
     refine c_val (val_sub (val_var rfl) val_c) ?_
     obtain ⟨x53, hx53, hm⟩ := Mi.bnd hm
     refine w_ixL r47 hx53 fun u54 r55 => ?_
     obtain ⟨_, rfl⟩ := r55
     refine g_name (σ' := [some v0, some v1, some v2, some (.int d3), some (.int count5), some (.int s9), some (.int q11.1), some (.int x32), some (.int x53), none, none, none]) rfl ?_
     refine q_ret ?_
     refine w_tup ?_
     refine w_cons ?_
     refine w_op ?_
     refine w_lst ?_
     refine w_args (va_cons (val_cS (a := ([103, 97, 116, 101] : List Nat)) (by decide +kernel)) (va_cons (val_cS (a := ([98, 97, 114] : List Nat)) (by decide +kernel)) va_nil)) ?_
     refine e_lst (K := K) (τ := yStr) (by exact Nat.le_of_ble_eq_true rfl) (.cons yStr_i (.cons yStr_i .nil)) fun p56 H60 np59 c57 r58 => ?_
     have d61 : Dj F0 [p56] := Ty.nin r0 np59
     have d62 : Dj F1 [p56] := Ty.nin r1 np59
     have n63 : ∀ a ∈ [p56], H0 a = none := one_fresh (c0.dom p56 np59)
     have r0 := Ty.ex r0 c57
     have r1 := Ty.ex r1 c57
     have r2 := Ty.fz r2 c57
     have c0 := c0.trans c57.none
     refine c_val (val_sub (val_var rfl) val_c) ?_
     obtain ⟨x64, hx64, hm⟩ := Mi.bnd hm
     refine w_ixL r58 hx64 fun u65 r66 => ?_
     obtain ⟨_, rfl⟩ := r66
     refine w_cons ?_
     refine c_val (val_var rfl) ?_
     refine w_cons ?_
     refine c_val (val_var rfl) ?_
     refine w_cons ?_
     refine c_val val_c ?_
     refine w_cons ?_
     refine w_call ?_
     obtain ⟨x67, hx67, hm⟩ := Mi.bnd hm
     refine w_args (va_cons (val_var rfl) (va_cons (val_add (itm_FI r2 hx67 (val_var rfl) (val_var rfl)) (val_var rfl)) (va_cons (val_sub (val_var rfl) (val_var rfl)) (va_cons (val_var rfl) va_nil)))) ?_
     obtain ⟨q68, hq68, hm⟩ := Mi.bnd hm
     have r0_old := r0
     refine ⟨v0, F0, q11.2, (x67 + x32), (x53 - x32), d3, q68, rfl, r0, hq68, fun v71 H70 F73 c69 r72 fr74 r0 => ?_⟩
     have d75 : Dj F0 F73 := Ty.fresh r0_old fr74
     have d76 : Dj F1 F73 := Ty.fresh r1 fr74
     have n77 : ∀ a ∈ F73, H0 a = none := fun a h => c0.dom a (fr74 a h)
     have r1 := Ty.chg r1 c69 dd0_1.symm
     have r2 := Ty.fz r2 c69
     have c0 := c0.join c69 (fun a h => .inl (h))
     refine w_nil ?_
     refine e_tup (K := K) (ty := (sCons yStr (sCons yInt (sCons yInt (sCons yInt (sOne (yLst yInt))))))) (F := ([] ++ ([] ++ ([] ++ ([] ++ F73))))) (d := (x64, q11.1, q11.1, (0 : Int), q68.1)) (by exact Nat.le_of_ble_eq_true rfl) ⟨_, _, _, _, rfl, rfl, yStr_i, ⟨_, _, _, _, rfl, rfl, yInt_i, ⟨_, _, _, _, rfl, rfl, yInt_i, ⟨_, _, _, _, rfl, rfl, yInt_i, ⟨_, rfl, r72⟩⟩⟩⟩⟩ fun p78 H82 np81 c79 r80  => ?_
     have r0 := Ty.ex r0 c79
     have r1 := Ty.ex r1 c79
     have r2 := Ty.fz r2 c79
     have r72 := Ty.ex r72 c79
     have c0 := c0.trans c79.none
     have d83 : Dj ([] ++ ([] ++ ([] ++ ([] ++ F73)))) F0 := (Dj.app (Dj.nil) ((Dj.app (Dj.nil) ((Dj.app (Dj.nil) ((Dj.app (Dj.nil) (d75.symm))))))))
     have d84 : Dj ([] ++ ([] ++ ([] ++ ([] ++ F73)))) F1 := (Dj.app (Dj.nil) ((Dj.app (Dj.nil) ((Dj.app (Dj.nil) ((Dj.app (Dj.nil) (d76.symm))))))))
     obtain rfl := Option.some.inj hm
     exact hQ _ _ _ c0 r80 (app_fresh nil_fresh (app_fresh nil_fresh (app_fresh nil_fresh (app_fresh nil_fresh n77)))) r0
   replace hm := Mi.ifF hb hm
   refine w_fall ?_
   refine q_if (ans_t (val_gt (val_var rfl) val_c)) (fun hb => ?_) (fun hb => ?_)
   ·
     replace hm := Mi.ifT hb hm
     refine q_asg ?_
     refine w_op ?_
     refine w_lst ?_
     obtain ⟨x85, hx85, hm⟩ := Mi.bnd hm
     obtain ⟨x86, hx86, hm⟩ := Mi.bnd hm
     obtain ⟨u87, r88, ku89⟩ := itm_L r1 hx86
     obtain ⟨u90, F91, r92, su93, kx94, ku95⟩ := itm_tup (n := 1) (atS at1) r88
     obtain ⟨rfl, rfl⟩ := r92
     obtain ⟨x96, hx96, hm⟩ := Mi.bnd hm
     refine w_args (va_cons (val_add (itm_FI r2 hx85 (val_var rfl) (val_var rfl)) (ku95 (ku89 (val_var rfl) (val_var rfl)) val_c)) (va_cons (itm_FI r2 hx96 (val_var rfl) (val_var rfl)) va_nil)) ?_
     refine e_lst (K := K) (τ := yInt) (by exact Nat.le_of_ble_eq_true rfl) (.cons yInt_i (.cons yInt_i .nil)) fun p97 H101 np100 c98 r99 => ?_
     have d102 : Dj F0 [p97] := Ty.nin r0 np100
     have d103 : Dj F1 [p97] := Ty.nin r1 np100
     have n104 : ∀ a ∈ [p97], H0 a = none := one_fresh (c0.dom p97 np100)
     have r0 := Ty.ex r0 c98
     have r1 := Ty.ex r1 c98
     have r2 := Ty.fz r2 c98
     have c0 := c0.trans c98.none
     refine c_val (val_sub (val_var rfl) val_c) ?_
     obtain ⟨x105, hx105, hm⟩ := Mi.bnd hm
     refine w_ixL r99 hx105 fun u106 r107 => ?_
     obtain ⟨_, rfl⟩ := r107
     refine g_name (σ' := [some v0, some v1, some v2, some (.int d3), some (.int count5), some (.int s9), some (.int q11.1), none, none, some (.int x105), none, none]) rfl ?_
     refine q_ret ?_
     refine w_tup ?_
     refine w_cons ?_
     refine w_op ?_
     refine w_lst ?_
     refine w_args (va_cons (val_cS (a := ([98, 121] : List Nat)) (by decide +kernel)) (va_cons (val_cS (a := ([102, 114, 111, 109] : List Nat)) (by decide +kernel)) va_nil)) ?_
     refine e_lst (K := K) (τ := yStr) (by exact Nat.le_of_ble_eq_true rfl) (.cons yStr_i (.cons yStr_i .nil)) fun p108 H112 np111 c109 r110 => ?_
     have d113 : Dj F0 [p108] := Ty.nin r0 np111
     have d114 : Dj F1 [p108] := Ty.nin r1 np111
     have n115 : ∀ a ∈ [p108], H0 a = none := one_fresh (c0.dom p108 np111)
     have r0 := Ty.ex r0 c109
     have r1 := Ty.ex r1 c109
     have r2 := Ty.fz r2 c109
     have c0 := c0.trans c109.none
     refine c_val (val_sub (val_var rfl) val_c) ?_
     obtain ⟨x116, hx116, hm⟩ := Mi.bnd hm
     refine w_ixL r110 hx116 fun u117 r118 => ?_
     obtain ⟨_, rfl⟩ := r118
     refine w_cons ?_
     refine c_val (val_var rfl) ?_
     refine w_cons ?_
     refine c_val (val_var rfl) ?_
     refine w_cons ?_
     refine w_call ?_
     refine w_cons ?_
     refine c_val (val_var rfl) ?_
     refine w_cons ?_
     refine c_val (val_var rfl) ?_
     refine w_cons ?_
     refine w_op ?_
     refine w_lst ?_
     refine w_args (va_cons val_c (va_cons (val_neg val_c) va_nil)) ?_
     refine e_lst (K := K) (τ := yInt) (by exact Nat.le_of_ble_eq_true rfl) (.cons yInt_i (.cons yInt_i .nil)) fun p119 H123 np122 c120 r121 => ?_
     have d124 : Dj F0 [p119] := Ty.nin r0 np122
     have d125 : Dj F1 [p119] := Ty.nin r1 np122
     have n126 : ∀ a ∈ [p119], H0 a = none := one_fresh (c0.dom p119 np122)
     have r0 := Ty.ex r0 c120
     have r1 := Ty.ex r1 c120
     have r2 := Ty.fz r2 c120
     have c0 := c0.trans c120.none
     refine c_val (val_sub (val_var rfl) val_c) ?_
     obtain ⟨x127, hx127, hm⟩ := Mi.bnd hm
     refine w_ixL r121 hx127 fun u128 r129 => ?_
     obtain ⟨_, rfl⟩ := r129
     refine w_cons ?_
     refine c_val (val_var rfl) ?_
     refine w_cons ?_
     refine c_val val_c ?_
     refine w_cons ?_
     refine c_val val_c ?_
     refine w_nil ?_
     obtain ⟨q130, hq130, hm⟩ := Mi.bnd hm
     refine ⟨v0, F0, q11.2, x105, x127, d3, (0 : Int), (200 : Int), q130, rfl, r0, hq130, fun H132 c131 r0 => ?_⟩
     have r1 := Ty.chg r1 c131 dd0_1.symm
     have r2 := Ty.fz r2 c131
     have c0 := c0.join c131 (fun a h => .inl (h))
     refine w_cons ?_
     refine w_lst ?_
     refine w_args va_nil ?_
     refine e_lst (K := K) (τ := yInt) (by exact Nat.le_of_ble_eq_true rfl) .nil fun p133 H137 np136 c134 r135 => ?_
     have d138 : Dj F0 [p133] := Ty.nin r0 np136
     have d139 : Dj F1 [p133] := Ty.nin r1 np136
     have n140 : ∀ a ∈ [p133], H0 a = none := one_fresh (c0.dom p133 np136)
     have r0 := Ty.ex r0 c134
     have r1 := Ty.ex r1 c134
     have r2 := Ty.fz r2 c134
     have c0 := c0.trans c134.none
     refine w_nil ?_
     refine e_tup (K := K) (ty := (sCons yStr (sCons yInt (sCons yInt (sCons yInt (sOne (yLst yInt))))))) (F := ([] ++ ([] ++ ([] ++ ([] ++ [p133]))))) (d := (x116, q11.1, q11.1, q130.1, ([] : (List Int)))) (by exact Nat.le_of_ble_eq_true rfl) ⟨_, _, _, _, rfl, rfl, yStr_i, ⟨_, _, _, _, rfl, rfl, yInt_i, ⟨_, _, _, _, rfl, rfl, yInt_i, ⟨_, _, _, _, rfl, rfl, yInt_i, ⟨_, rfl, r135⟩⟩⟩⟩⟩ fun p141 H145 np144 c142 r143  => ?_
     have r0 := Ty.ex r0 c142
     have r1 := Ty.ex r1 c142
     have r2 := Ty.fz r2 c142
     have r135 := Ty.ex r135 c142
     have c0 := c0.trans c142.none
     have d146 : Dj ([] ++ ([] ++ ([] ++ ([] ++ [p133])))) F0 := (Dj.app (Dj.nil) ((Dj.app (Dj.nil) ((Dj.app (Dj.nil) ((Dj.app (Dj.nil) (d138.symm))))))))
     have d147 : Dj ([] ++ ([] ++ ([] ++ ([] ++ [p133])))) F1 := (Dj.app (Dj.nil) ((Dj.app (Dj.nil) ((Dj.app (Dj.nil) ((Dj.app (Dj.nil) (d139.symm))))))))
     obtain rfl := Option.some.inj hm
     exact hQ _ _ _ c0 r143 (app_fresh nil_fresh (app_fresh nil_fresh (app_fresh nil_fresh (app_fresh nil_fresh n140)))) r0
   replace hm := Mi.ifF hb hm
   refine w_fall ?_
   refine q_asg ?_
   refine w_op ?_
   refine w_cb ?_
   refine w_cons ?_
   refine w_op ?_
   refine c_val (val_add (val_var rfl) val_c) ?_
   refine w_call ?_
   refine w_args (va_cons (val_var rfl) (va_cons (val_sub (val_var rfl) val_c) va_nil)) ?_
   obtain ⟨q148, hq148, hm⟩ := Mi.bnd hm
   refine ⟨v0, F0, q11.2, (count5 - (1 : Int)), q148, rfl, r0, hq148, fun H150 c149 r0 => ?_⟩
   have r1 := Ty.chg r1 c149 dd0_1.symm
   have r2 := Ty.fz r2 c149
   have c0 := c0.join c149 (fun a h => .inl (h))
   refine w_I0 ?_
   refine w_nil ?_
   refine w_int ?_
   refine c_val (val_var rfl) ?_
   obtain ⟨x151, hx151, hm⟩ := Mi.bnd hm
   refine w_mod hx151 ?_
   refine g_name (σ' := [some v0, some v1, some v2, some (.int d3), some (.int count5), some (.int s9), some (.int q11.1), none, none, none, some (.int x151), none]) rfl ?_
   obtain ⟨x152, hx152, hm⟩ := Mi.bnd hm
   obtain ⟨x153, hx153, hm⟩ := Mi.bnd hm
   obtain ⟨late154, hlate154, hm⟩ := Mi.letE hm
   refine q_setE (val_sub (itm_FI r2 hx152 (val_var rfl) (val_var rfl)) (itm_FI r2 hx153 (val_var rfl) (val_var rfl))) (congrArg V.int hlate154) (σ' := [some v0, some v1, some v2, some (.int d3), some (.int count5), some (.int s9), some (.int q11.1), none, none, none, some (.int x151), some (.int late154)]) rfl ?_
   refine q_asg ?_
   refine w_op ?_
   refine w_lst ?_
   obtain ⟨x155, hx155, hm⟩ := Mi.bnd hm
   obtain ⟨u156, r157, ku158⟩ := itm_L r1 hx155
   obtain ⟨u159, F160, r161, su162, kx163, ku164⟩ := itm_tup (n := 1) (atS at1) r157
   obtain ⟨rfl, rfl⟩ := r161
   obtain ⟨x165, hx165, hm⟩ := Mi.bnd hm
   obtain ⟨u166, r167, ku168⟩ := itm_L r1 hx165
   obtain ⟨u169, F170, r171, su172, kx173, ku174⟩ := itm_tup (n := 1) (atS at1) r167
   obtain ⟨rfl, rfl⟩ := r171
   obtain ⟨x175, hx175, hm⟩ := Mi.bnd hm
   obtain ⟨u176, r177, ku178⟩ := itm_L r1 hx175
   obtain ⟨u179, F180, r181, su182, kx183, ku184⟩ := itm_tup (n := 0) at0 r177
   obtain ⟨rfl, rfl⟩ := r181
   refine w_args (va_cons (val_sub (val_var rfl) (ku164 (ku158 (val_var rfl) (val_var rfl)) val_c)) (va_cons (val_var rfl) (va_cons (val_sub (val_add (val_var rfl) (ku174 (ku168 (val_var rfl) (val_var rfl)) val_c)) (ku184 (ku178 (val_var rfl) (val_var rfl)) val_c)) va_nil))) ?_
   refine e_lst (K := K) (τ := yInt) (by exact Nat.le_of_ble_eq_true rfl) (.cons yInt_i (.cons yInt_i (.cons yInt_i .nil))) fun p185 H189 np188 c186 r187 => ?_
   have d190 : Dj F0 [p185] := Ty.nin r0 np188
   have d191 : Dj F1 [p185] := Ty.nin r1 np188
   have n192 : ∀ a ∈ [p185], H0 a = none := one_fresh (c0.dom p185 np188)
   have r0 := Ty.ex r0 c186
   have r1 := Ty.ex r1 c186
   have r2 := Ty.fz r2 c186
   have c0 := c0.trans c186.none
   refine c_val (val_var rfl) ?_
   obtain ⟨x193, hx193, hm⟩ := Mi.bnd hm
   refine w_ixL r187 hx193 fun u194 r195 => ?_
   obtain ⟨_, rfl⟩ := r195
   refine g_name (σ' := [some v0, some v1, some v2, some (.int d3), some (.int count5), some (.int s9), some (.int q11.1), none, none, some (.int x193), some (.int x151), some (.int late154)]) rfl ?_
   refine q_ret ?_
   refine w_tup ?_
   refine w_cons ?_
   refine w_op ?_
   refine w_lst ?_
   refine w_args (va_cons (val_cS (a := ([97, 102, 116, 101, 114] : List Nat)) (by decide +kernel)) (va_cons (val_cS (a := ([119, 105, 116, 104] : List Nat)) (by decide +kernel)) (va_cons (val_cS (a := ([108, 97, 110, 100, 115] : List Nat)) (by decide +kernel)) va_nil))) ?_
   refine e_lst (K := K) (τ := yStr) (by exact Nat.le_of_ble_eq_true rfl) (.cons yStr_i (.cons yStr_i (.cons yStr_i .nil))) fun p196 H200 np199 c197 r198 => ?_
   have d201 : Dj F0 [p196] := Ty.nin r0 np199
   have d202 : Dj F1 [p196] := Ty.nin r1 np199
   have n203 : ∀ a ∈ [p196], H0 a = none := one_fresh (c0.dom p196 np199)
   have r0 := Ty.ex r0 c197
   have r1 := Ty.ex r1 c197
   have r2 := Ty.fz r2 c197
   have c0 := c0.trans c197.none
   refine c_val (val_var rfl) ?_
   obtain ⟨x204, hx204, hm⟩ := Mi.bnd hm
   refine w_ixL r198 hx204 fun u205 r206 => ?_
   obtain ⟨_, rfl⟩ := r206
   refine w_cons ?_
   refine c_val (val_var rfl) ?_
   refine w_cons ?_
   refine c_val (val_var rfl) ?_
   refine w_cons ?_
   refine w_call ?_
   refine w_cons ?_
   refine c_val (val_var rfl) ?_
   refine w_cons ?_
   refine c_val (val_var rfl) ?_
   refine w_cons ?_
   refine w_op ?_
   refine w_lst ?_
   refine w_args (va_cons (val_neg val_c) (va_cons val_c (va_cons val_c va_nil))) ?_
   refine e_lst (K := K) (τ := yInt) (by exact Nat.le_of_ble_eq_true rfl) (.cons yInt_i (.cons yInt_i (.cons yInt_i .nil))) fun p207 H211 np210 c208 r209 => ?_
   have d212 : Dj F0 [p207] := Ty.nin r0 np210
   have d213 : Dj F1 [p207] := Ty.nin r1 np210
   have n214 : ∀ a ∈ [p207], H0 a = none := one_fresh (c0.dom p207 np210)
   have r0 := Ty.ex r0 c208
   have r1 := Ty.ex r1 c208
   have r2 := Ty.fz r2 c208
   have c0 := c0.trans c208.none
   refine c_val (val_var rfl) ?_
   obtain ⟨x215, hx215, hm⟩ := Mi.bnd hm
   refine w_ixL r209 hx215 fun u216 r217 => ?_
   obtain ⟨_, rfl⟩ := r217
   refine w_cons ?_
   refine c_val (val_var rfl) ?_
   refine w_cons ?_
   refine c_val (val_neg val_c) ?_
   refine w_cons ?_
   refine c_val val_c ?_
   refine w_nil ?_
   obtain ⟨q218, hq218, hm⟩ := Mi.bnd hm
   refine ⟨v0, F0, q148.2, x193, x215, d3, (-(60 : Int)), (60 : Int), q218, rfl, r0, hq218, fun H220 c219 r0 => ?_⟩
   have r1 := Ty.chg r1 c219 dd0_1.symm
   have r2 := Ty.fz r2 c219
   have c0 := c0.join c219 (fun a h => .inl (h))
   refine w_cons ?_
   refine w_lst ?_
   refine w_args va_nil ?_
   refine e_lst (K := K) (τ := yInt) (by exact Nat.le_of_ble_eq_true rfl) .nil fun p221 H225 np224 c222 r223 => ?_
   have d226 : Dj F0 [p221] := Ty.nin r0 np224
   have d227 : Dj F1 [p221] := Ty.nin r1 np224
   have n228 : ∀ a ∈ [p221], H0 a = none := one_fresh (c0.dom p221 np224)
   have r0 := Ty.ex r0 c222
   have r1 := Ty.ex r1 c222
   have r2 := Ty.fz r2 c222
   have c0 := c0.trans c222.none
   refine w_nil ?_
   refine e_tup (K := K) (ty := (sCons yStr (sCons yInt (sCons yInt (sCons yInt (sOne (yLst yInt))))))) (F := ([] ++ ([] ++ ([] ++ ([] ++ [p221]))))) (d := (x204, q11.1, x151, q218.1, ([] : (List Int)))) (by exact Nat.le_of_ble_eq_true rfl) ⟨_, _, _, _, rfl, rfl, yStr_i, ⟨_, _, _, _, rfl, rfl, yInt_i, ⟨_, _, _, _, rfl, rfl, yInt_i, ⟨_, _, _, _, rfl, rfl, yInt_i, ⟨_, rfl, r223⟩⟩⟩⟩⟩ fun p229 H233 np232 c230 r231  => ?_
   have r0 := Ty.ex r0 c230
   have r1 := Ty.ex r1 c230
   have r2 := Ty.fz r2 c230
   have r223 := Ty.ex r223 c230
   have c0 := c0.trans c230.none
   have d234 : Dj ([] ++ ([] ++ ([] ++ ([] ++ [p221])))) F0 := (Dj.app (Dj.nil) ((Dj.app (Dj.nil) ((Dj.app (Dj.nil) ((Dj.app (Dj.nil) (d226.symm))))))))
   have d235 : Dj ([] ++ ([] ++ ([] ++ ([] ++ [p221])))) F1 := (Dj.app (Dj.nil) ((Dj.app (Dj.nil) ((Dj.app (Dj.nil) ((Dj.app (Dj.nil) (d227.symm))))))))
   obtain rfl := Option.some.inj hm
   exact hQ _ _ _ c0 r231 (app_fresh nil_fresh (app_fresh nil_fresh (app_fresh nil_fresh (app_fresh nil_fresh n228)))) r0
abbrev s_l_plains : Stmt := topS 48
abbrev N_l_plains : List Str := ["_law_hand_here", "_law_spans", "_law_schedule_here", "_law_kept", "_law_count", "_law_k"]
theorem sc_l_plains : FnScope ["_law_hand_here", "_law_spans", "_law_schedule_here", "_law_kept", "_law_count", "_law_k"] ["_law_hand_here", "_law_spans", "_law_schedule_here"] (defScope s_l_plains) := ⟨rfl, rfl, rfl, by decide +kernel, rfl, by decide +kernel, by decide +kernel⟩
def sp_l_plains (K : PySem.W.Frag) : Sp := fun vs H Q _ => ∃ (v0 : V) (F0 : List Addr) (d0 : (List Int)) (v1 : V) (F1 : List Addr) (d1 : (List (Int × Int))) (v2 : V) (d2 : (List Int)) (r : ((List ((List Nat) × Int × Int × Int × (List Int))) × (List Int))), vs = [v0, v1, v2] ∧ (yLst yInt).rep K H F0 v0 d0 ∧ (yLst (yTup (sCons yInt (sOne yInt)))).rep K H F1 v1 d1 ∧ (yFl yInt).rep K H [] v2 d2 ∧ Dj F0 F1 ∧ Mi.m_l_plains d0 d1 d2 = some r ∧ ∀ v H' F, Chg (F0) H H' → (yLsg (yTup (sCons yStr (sCons yInt (sCons yInt (sCons yInt (sOne (yLst yInt)))))))).rep K H' F v r.1 → (∀ a ∈ F, H a = none) → (yLst yInt).rep K H' F0 v0 r.2 → Q v H'
theorem ok_l_plains (B : Bi mg) (CN : Cs K mg) (D : Dfn K mg "_law_plains" s_l_plains) (C_l_pick : Cal P w K mg "_law_pick" ["_law_hand_here", "_law_size"] 1 (sp_l_pick K)) (C_l_plain : Cal P w K mg "_law_plain" ["_law_hand_here", "_law_spans", "_law_schedule_here", "_law_kept"] 3 (sp_l_plain K)) : Cal P w K mg "_law_plains" ["_law_hand_here", "_law_spans", "_law_schedule_here"] 4 (sp_l_plains K) := by
 obtain ⟨f, fd, F, g⟩ := D.ex
 refine ⟨f, fd, g, F.kp, bindsF F (fun _ _ _ _ _ _ us hl => match us, hl with | [_, _, _], _ => rfl), fun base => F.ok sc_l_plains (fun vs H Q E h => ?_) (fun cdv A outer s H0 vs Q E hr h => ?_)⟩
 · obtain ⟨v0, F0, d0, v1, F1, d1, v2, d2, r, rfl, r0, r1, r2, dd0_1, hm, hQ⟩ := h; rfl
 ·
   obtain ⟨v0, F0, d0, v1, F1, d1, v2, d2, r, rfl, r0, r1, r2, dd0_1, hm, hQ⟩ := h
   refine ⟨_, pss_cons (ps_set (i := 3) sc_l_plains.nd rfl (.inr rfl) (pe_cc C_l_pick hr (pa_cons (pv 0) (pa_cons pe_int pa_nil))))
     (pss_cons (ps_set (i := 4) sc_l_plains.nd rfl (.inl rfl) (pe_cc C_l_pick hr (pa_cons (pv 0) (pa_cons (pe_ix (ix_l (K := K)) (pe_lst (pa_cons pe_int (pa_cons pe_int (pa_cons pe_int (pa_cons pe_int (pa_cons pe_int (pa_cons pe_int (pa_cons pe_int (pa_cons pe_int pa_nil))))))))) (pe_cc C_l_pick hr (pa_cons (pv 0) (pa_cons pe_int pa_nil))) (fun _ _ => rfl)) pa_nil))))
     (pss_cons (ps_ret (pe_lc (own := [("_law_k", 5)]) rfl sc_l_plains.nd (pi_range1 (by rfl) B.range (pa_cons (pv 4) pa_nil)) (blkOk_by (own := [("_law_k", 5)]) (N := N_l_plains) (sc := defScope s_l_plains) (by decide +kernel)) (fun _ _ _ _ _ => (pg_name (i := 5) sc_l_plains.nd rfl (.inl rfl))) (fun _ _ _ _ _ => pts_nil) (fun _ _ _ _ _ => (pe_cc C_l_plain hr (pa_cons (pv 0) (pa_cons (pv 1) (pa_cons (pv 2) (pa_cons (pv 3) pa_nil)))))))) pss_nil)), ?_⟩
   have c0 : Chg (F0) H0 H0 := Chg.refl H0
   unfold Mi.m_l_plains at hm
   refine q_asg ?_
   refine w_call ?_
   refine w_args (va_cons (val_var rfl) (va_cons val_c va_nil)) ?_
   obtain ⟨q4, hq4, hm⟩ := Mi.bnd hm
   refine ⟨v0, F0, d0, (2 : Int), q4, rfl, r0, hq4, fun H6 c5 r0 => ?_⟩
   have r1 := Ty.chg r1 c5 dd0_1.symm
   have r2 := Ty.fz r2 c5
   have c0 := c0.join c5 (fun a h => .inl (h))
   refine g_name (σ' := [some v0, some v1, some v2, some (.int q4.1), none, none]) rfl ?_
   refine q_asg ?_
   refine w_call ?_
   refine w_cons ?_
   refine c_val (val_var rfl) ?_
   refine w_cons ?_
   refine w_op ?_
   refine w_lst ?_
   refine w_args (va_cons val_c (va_cons val_c (va_cons val_c (va_cons val_c (va_cons val_c (va_cons val_c (va_cons val_c (va_cons val_c va_nil)))))))) ?_
   refine e_lst (K := K) (τ := yInt) (by exact Nat.le_of_ble_eq_true rfl) (.cons yInt_i (.cons yInt_i (.cons yInt_i (.cons yInt_i (.cons yInt_i (.cons yInt_i (.cons yInt_i (.cons yInt_i .nil)))))))) fun p7 H11 np10 c8 r9 => ?_
   have d12 : Dj F0 [p7] := Ty.nin r0 np10
   have d13 : Dj F1 [p7] := Ty.nin r1 np10
   have n14 : ∀ a ∈ [p7], H0 a = none := one_fresh (c0.dom p7 np10)
   have r0 := Ty.ex r0 c8
   have r1 := Ty.ex r1 c8
   have r2 := Ty.fz r2 c8
   have c0 := c0.trans c8.none
   refine w_call ?_
   refine w_args (va_cons (val_var rfl) (va_cons val_c va_nil)) ?_
   obtain ⟨q15, hq15, hm⟩ := Mi.bnd hm
   refine ⟨v0, F0, q4.2, (8 : Int), q15, rfl, r0, hq15, fun H17 c16 r0 => ?_⟩
   have r1 := Ty.chg r1 c16 dd0_1.symm
   have r2 := Ty.fz r2 c16
   have r9 := Ty.chg r9 c16 d12.symm
   have c0 := c0.join c16 (fun a h => .inl (h))
   obtain ⟨x18, hx18, hm⟩ := Mi.bnd hm
   refine w_ixL r9 hx18 fun u19 r20 => ?_
   obtain ⟨_, rfl⟩ := r20
   refine w_nil ?_
   obtain ⟨q21, hq21, hm⟩ := Mi.bnd hm
   refine ⟨v0, F0, q15.2, x18, q21, rfl, r0, hq21, fun H23 c22 r0 => ?_⟩
   have r1 := Ty.chg r1 c22 dd0_1.symm
   have r2 := Ty.fz r2 c22
   have c0 := c0.join c22 (fun a h => .inl (h))
   refine g_name (σ' := [some v0, some v1, some v2, some (.int q4.1), some (.int q21.1), none]) rfl ?_
   refine q_ret ?_
   refine w_lc ?_
   refine w_iRng1 ?_
   refine w_args (va_cons (val_var rfl) va_nil) ?_
   obtain ⟨g24, hg24, hm⟩ := Mi.bnd hm
   obtain ⟨e25, he25, hm⟩ := Mi.bnd hm
   refine kc_rng1 (K := K) (τ := yInt) hg24 (fun D27 i H' => ∃ (s26 : ((List ((List Nat) × Int × Int × Int × (List Int))) × (List Int))) (F29 : List Addr), Chg (F0) H0 H' ∧ (yLst yInt).rep K H' F0 v0 s26.2 ∧ (yLst (yTup (sCons yInt (sOne yInt)))).rep K H' F1 v1 d1 ∧ (yFl yInt).rep K H' [] v2 d2 ∧ (yLsg (yTup (sCons yStr (sCons yInt (sCons yInt (sCons yInt (sOne (yLst yInt)))))))).rep K H' F29 (.ref D27) s26.1 ∧ Dj F0 F29 ∧ Dj F1 F29 ∧ (∀ a ∈ F29, H0 a = none) ∧ Mi.forN (Mi.m_l_plains_b1 d1 d2 q4) s26 (List.drop i g24) = some e25) (fun D27 H36 np35 c34 r28 => ⟨(([] : (List ((List Nat) × Int × Int × Int × (List Int)))), q21.2), [D27], c0.trans c34.none, (Ty.ex r0 c34), (Ty.ex r1 c34), (Ty.fz r2 c34), lsg_nil r28, Ty.nin r0 np35, Ty.nin r1 np35, one_fresh (c0.dom D27 np35), he25⟩) (fun D27 i39 x38 H40 hx37 hp => ?_) (fun D27 H' np35 hp => ?_)
   ·
     obtain ⟨s26, F29, c0, r0, r1, r2, r28, d30, d31, n33, hle25⟩ := hp
     obtain ⟨_, hbe25, hle25⟩ := Mi.forN_go hle25 hx37
     unfold Mi.m_l_plains_b1 at hbe25
     refine g_name (σ' := [some v0, some v1, some v2, some (.int q4.1), some (.int q21.1), some (.int x38)]) rfl ?_
     refine ⟨rfl, ?_⟩
     refine w_yes ?_
     refine iteT ?_
     refine w_call ?_
     refine w_args (va_cons (val_var rfl) (va_cons (val_var rfl) (va_cons (val_var rfl) (va_cons (val_var rfl) va_nil)))) ?_
     obtain ⟨q47, hq47, hbe25⟩ := Mi.bnd hbe25
     have r0_old := r0
     refine ⟨v0, F0, s26.2, v1, F1, d1, v2, d2, q4.1, q47, rfl, r0, r1, r2, dd0_1, hq47, fun v50 H49 F52 c48 r51 fr53 r0 => ?_⟩
     have d54 : Dj F0 F52 := Ty.fresh r0_old fr53
     have d55 : Dj F1 F52 := Ty.fresh r1 fr53
     have d56 : Dj F29 F52 := Ty.fresh r28 fr53
     have n57 : ∀ a ∈ F52, H0 a = none := fun a h => c0.dom a (fr53 a h)
     have r1 := Ty.chg r1 c48 dd0_1.symm
     have r2 := Ty.fz r2 c48
     have r28 := Ty.chg r28 c48 d30.symm
     have c0 := c0.join c48 (fun a h => .inl (h))
     obtain ⟨x58, hx58, hbe25⟩ := Mi.bnd hbe25
     refine e_appG r28 r51 (ap_of r28 (d56)) hx58 fun H62 F63 c61 r28 sa64 sb65 => ?_
     have r0 := Ty.chg r0 c61 d30
     have r1 := Ty.chg r1 c61 d31
     have r2 := Ty.fz r2 c61
     have r51 := Ty.chg r51 c61 d56.symm
     have c0 := c0.join c61 (fun a h => .inr (n33 a h))
     have d66 : Dj F0 F63 := Dj.grow (d30) (d54) sb65
     have d67 : Dj F1 F63 := Dj.grow (d31) (d55) sb65
     have n68 : ∀ a ∈ F63, H0 a = none := fresh_grow n33 n57 sb65
     obtain rfl := Option.some.inj hbe25
     exact ⟨(x58, q47.2), F63, c0, r0, r1, r2, r28, (d66), (d67), n68, hle25⟩
   obtain ⟨s26, F29, c0, r0, r1, r2, r28, d30, d31, n33, hle25⟩ := hp
   obtain rfl := Mi.forN_end hle25
   obtain rfl := Option.some.inj hm
   exact hQ _ _ _ c0 r28 n33 r0
abbrev s_l_order : Stmt := topS 49
theorem sc_l_order : FnScope ["_law_plain_here"] ["_law_plain_here"] (defScope s_l_order) := ⟨rfl, rfl, rfl, by decide +kernel, rfl, by decide +kernel, by decide +kernel⟩
def sp_l_order (K : PySem.W.Frag) (C_Gate : Addr) : Sp := fun vs H Q _ => ∃ (v0 : V) (F0 : List Addr) (d0 : ((List Nat) × Int × Int × Int × (List Int))) (r : (List (Int ⊕ (List Nat) ⊕ ((List Int))))), vs = [v0] ∧ (yTup (sCons yStr (sCons yInt (sCons yInt (sCons yInt (sOne (yLst yInt))))))).rep K H F0 v0 d0 ∧ Mi.m_l_order d0 = some r ∧ ∀ v H', Chg ([]) H H' → (yTupL (ySum yInt (ySum yStr (yObj C_Gate nm_Gate ty_Gate)))).rep K H' [] v r → Q v H'
theorem ok_l_order (B : Bi mg) (CN : Cs K mg) (D : Dfn K mg "_law_order" s_l_order) {C_Gate : Addr} (T_Gate : Tx K mg C_Gate "Gate" nm_Gate) (I_Gate : CalI P w K mg C_Gate "Gate.__init__" s_Gate_init (kw_Gate K) ["self", "hours"] 1 (sp_Gate_init K C_Gate)) : Cal P w K mg "_law_order" ["_law_plain_here"] 3 (sp_l_order K C_Gate) := by
 obtain ⟨f, fd, F, g⟩ := D.ex
 refine ⟨f, fd, g, F.kp, bindsF F (fun _ _ _ _ _ _ us hl => match us, hl with | [_], _ => rfl), fun base => F.ok sc_l_order (fun vs H Q E h => ?_) (fun cdv A outer s H0 vs Q E hr h => ?_)⟩
 · obtain ⟨v0, F0, d0, r, rfl, r0, hm, hQ⟩ := h; rfl
 ·
   obtain ⟨v0, F0, d0, r, rfl, r0, hm, hQ⟩ := h
   obtain ⟨fI_Gate, fdI_Gate, MI_Gate, FI_Gate, OI_Gate⟩ := I_Gate.ex
   have kb_Gate_1_ : Binds K fdI_Gate ["self", "hours"] [] := FunD.bindsN FI_Gate (fun _ _ _ _ _ _ us hl => match us, hl with | [_, _], _ => rfl)
   refine ⟨_, pss_cons (ps_if (PW.pt (pw_or (pt_cmpR op_eq (pe_ix (ix_t (K := K)) (pv 0) pe_int (fun _ _ => rfl)) pe_str (nomark _)) (pw_or1 (pt_cmpR op_eq (pe_ix (ix_t (K := K)) (pv 0) pe_int (fun _ _ => rfl)) pe_str (nomark _))))) (pss_cons (ps_ret (pe_tup (pa_cons (pe_ix (ix_t (K := K)) (pv 0) pe_int (fun _ _ => rfl)) (pa_cons (pe_ix (ix_t (K := K)) (pv 0) pe_int (fun _ _ => rfl)) (pa_cons (pe_make MI_Gate (OI_Gate base) (hr.mono (by decide)) (by rfl) T_Gate.mgC kb_Gate_1_ .nil pass0 (pa_cons (pe_callTy (cl_list (K := K)) (by rfl) B.list (by decide +kernel) (pa_cons (pe_ix (ix_t (K := K)) (pv 0) pe_int (fun _ _ => rfl)) pa_nil)) pa_nil)) pa_nil))))) pss_nil) (pss_nil))
     (pss_cons (ps_if (PW.pt (pw_or (pt_cmpR op_eq (pe_ix (ix_t (K := K)) (pv 0) pe_int (fun _ _ => rfl)) pe_str (nomark _)) (pw_or1 (pt_cmpR op_eq (pe_ix (ix_t (K := K)) (pv 0) pe_int (fun _ _ => rfl)) pe_str (nomark _))))) (pss_cons (ps_ret (pe_tup (pa_cons (pe_ix (ix_t (K := K)) (pv 0) pe_int (fun _ _ => rfl)) (pa_cons (pe_ix (ix_t (K := K)) (pv 0) pe_int (fun _ _ => rfl)) (pa_cons (pe_ix (ix_t (K := K)) (pv 0) pe_int (fun _ _ => rfl)) pa_nil))))) pss_nil) (pss_nil))
     (pss_cons (ps_ret (pe_tup (pa_cons (pe_ix (ix_t (K := K)) (pv 0) pe_int (fun _ _ => rfl)) (pa_cons (pe_ix (ix_t (K := K)) (pv 0) pe_int (fun _ _ => rfl)) (pa_cons (pe_ix (ix_t (K := K)) (pv 0) pe_int (fun _ _ => rfl)) (pa_cons (pe_ix (ix_t (K := K)) (pv 0) pe_int (fun _ _ => rfl)) pa_nil)))))) pss_nil)), ?_⟩
   have c0 : Chg ([] : List Addr) H0 H0 := Chg.refl H0
   unfold Mi.m_l_order at hm
   obtain ⟨u2, F3, r4, su5, kx6, ku7⟩ := itm_tup (n := 0) at0 r0
   obtain ⟨rfl, rfl⟩ := r4
   obtain ⟨u9, F10, r11, su12, kx13, ku14⟩ := itm_tup (n := 0) at0 r0
   obtain ⟨rfl, rfl⟩ := r11
   refine q_if (ans_orB (ans_t (val_eqS (ku7 (val_var rfl) val_c) (val_cS (a := ([103, 97, 116, 101] : List Nat)) (by decide +kernel)))) (fun _ => (ans_t (val_eqS (ku14 (val_var rfl) val_c) (val_cS (a := ([98, 97, 114] : List Nat)) (by decide +kernel)))))) (fun hb => ?_) (fun hb => ?_)
   ·
     replace hm := Mi.ifT hb hm
     refine q_ret ?_
     refine w_tup ?_
     refine w_cons ?_
     obtain ⟨u15, F16, r17, su18, kx19, ku20⟩ := itm_tup (n := 0) at0 r0
     obtain ⟨rfl, rfl⟩ := r17
     refine c_val (ku20 (val_var rfl) val_c) ?_
     refine w_cons ?_
     obtain ⟨u21, F22, r23, su24, kx25, ku26⟩ := itm_tup (n := 1) (atS at0) r0
     obtain ⟨rfl, rfl⟩ := r23
     refine c_val (ku26 (val_var rfl) val_c) ?_
     refine w_cons ?_
     refine w_mk ?_
     refine w_cons ?_
     refine w_cb ?_
     obtain ⟨u27, F28, r29, su30, kx31, ku32⟩ := itm_tup (n := 4) (atS (atS (atS (atS at1)))) r0
     refine w_args (va_cons (ku32 (val_var rfl) val_c) va_nil) ?_
     refine w_listL r29 fun p33 H37 np36 c34 r35 => ?_
     have d38 : Dj F0 [p33] := Ty.nin r0 np36
     have d39 : Dj F28 [p33] := Ty.nin r29 np36
     have n40 : ∀ a ∈ [p33], H0 a = none := one_fresh (c0.dom p33 np36)
     have r0 := Ty.ex r0 c34
     have r29 := Ty.ex r29 c34
     have c0 := c0.trans c34.none
     refine w_nil ?_
     intro p41 dx42 nx43 ndx44 nex45
     have d46 : Dj F0 [p41] := Ty.nin r0 nx43
     have d47 : Dj [p33] [p41] := Ty.nin r35 nx43
     have n48 : ∀ a ∈ [p41], H0 a = none := one_fresh (c0.dom p41 nx43)
     obtain ⟨c49, r50⟩ := make_new (K := K) (C := C_Gate) nx43 ndx44 nex45
     have r0 := Ty.ex r0 c49
     have r35 := Ty.ex r35 c49
     have c0 := c0.trans c49.none
     obtain ⟨q51, hq51, hm⟩ := Mi.bnd hm
     refine ⟨p41, dx42, (.ref p33), [p33], d0.2.2.2.2, q51, rfl, r50, r35, d47.symm, hq51, fun H53 c52 r54 => ⟨rfl, ?_⟩⟩
     have r0 := Ty.chg r0 c52 d46
     have c0 := c0.join c52 (fun a h => .inr (n48 a h))
     refine w_nil ?_
     refine e_tupl (K := K) (τ := (ySum yInt (ySum yStr (yObj C_Gate nm_Gate ty_Gate)))) (xs := ([(.inr (.inl d0.1)), (.inl d0.2.1), (.inr (.inr q51))] : (List (Int ⊕ (List Nat) ⊕ ((List Int)))))) (by exact Nat.le_of_ble_eq_true rfl) (.cons (sum_r (sum_l yStr_i)) (.cons (sum_l yInt_i) (.cons (sum_r (sum_r r54)) .nil))) fun p55 H59 np58 c56 r57 => ?_
     have r0 := Ty.ex r0 c56
     have r54 := Ty.fz r54 c56
     have c0 := c0.trans c56.none
     obtain rfl := Option.some.inj hm
     exact hQ _ _ c0 r57 
   replace hm := Mi.ifF hb hm
   refine w_fall ?_
   obtain ⟨u60, F61, r62, su63, kx64, ku65⟩ := itm_tup (n := 0) at0 r0
   obtain ⟨rfl, rfl⟩ := r62
   obtain ⟨u67, F68, r69, su70, kx71, ku72⟩ := itm_tup (n := 0) at0 r0
   obtain ⟨rfl, rfl⟩ := r69
   refine q_if (ans_orB (ans_t (val_eqS (ku65 (val_var rfl) val_c) (val_cS (a := ([98, 121] : List Nat)) (by decide +kernel)))) (fun _ => (ans_t (val_eqS (ku72 (val_var rfl) val_c) (val_cS (a := ([102, 114, 111, 109] : List Nat)) (by decide +kernel)))))) (fun hb => ?_) (fun hb => ?_)
   ·
     replace hm := Mi.ifT hb hm
     refine q_ret ?_
     refine w_tup ?_
     obtain ⟨u73, F74, r75, su76, kx77, ku78⟩ := itm_tup (n := 0) at0 r0
     obtain ⟨rfl, rfl⟩ := r75
     obtain ⟨u79, F80, r81, su82, kx83, ku84⟩ := itm_tup (n := 1) (atS at0) r0
     obtain ⟨rfl, rfl⟩ := r81
     obtain ⟨u85, F86, r87, su88, kx89, ku90⟩ := itm_tup (n := 3) (atS (atS (atS at0))) r0
     obtain ⟨rfl, rfl⟩ := r87
     refine w_args (va_cons (ku78 (val_var rfl) val_c) (va_cons (ku84 (val_var rfl) val_c) (va_cons (ku90 (val_var rfl) val_c) va_nil))) ?_
     refine e_tupl (K := K) (τ := (ySum yInt (ySum yStr (yObj C_Gate nm_Gate ty_Gate)))) (xs := ([(.inr (.inl d0.1)), (.inl d0.2.1), (.inl d0.2.2.2.1)] : (List (Int ⊕ (List Nat) ⊕ ((List Int)))))) (by exact Nat.le_of_ble_eq_true rfl) (.cons (sum_r (sum_l yStr_i)) (.cons (sum_l yInt_i) (.cons (sum_l yInt_i) .nil))) fun p91 H95 np94 c92 r93 => ?_
     have r0 := Ty.ex r0 c92
     have c0 := c0.trans c92.none
     obtain rfl := Option.some.inj hm
     exact hQ _ _ c0 r93 
   replace hm := Mi.ifF hb hm
   refine w_fall ?_
   refine q_ret ?_
   refine w_tup ?_
   obtain ⟨u96, F97, r98, su99, kx100, ku101⟩ := itm_tup (n := 0) at0 r0
   obtain ⟨rfl, rfl⟩ := r98
   obtain ⟨u102, F103, r104, su105, kx106, ku107⟩ := itm_tup (n := 1) (atS at0) r0
   obtain ⟨rfl, rfl⟩ := r104
   obtain ⟨u108, F109, r110, su111, kx112, ku113⟩ := itm_tup (n := 2) (atS (atS at0)) r0
   obtain ⟨rfl, rfl⟩ := r110
   obtain ⟨u114, F115, r116, su117, kx118, ku119⟩ := itm_tup (n := 3) (atS (atS (atS at0))) r0
   obtain ⟨rfl, rfl⟩ := r116
   refine w_args (va_cons (ku101 (val_var rfl) val_c) (va_cons (ku107 (val_var rfl) val_c) (va_cons (ku113 (val_var rfl) val_c) (va_cons (ku119 (val_var rfl) val_c) va_nil)))) ?_
   refine e_tupl (K := K) (τ := (ySum yInt (ySum yStr (yObj C_Gate nm_Gate ty_Gate)))) (xs := ([(.inr (.inl d0.1)), (.inl d0.2.1), (.inl d0.2.2.1), (.inl d0.2.2.2.1)] : (List (Int ⊕ (List Nat) ⊕ ((List Int)))))) (by exact Nat.le_of_ble_eq_true rfl) (.cons (sum_r (sum_l yStr_i)) (.cons (sum_l yInt_i) (.cons (sum_l yInt_i) (.cons (sum_l yInt_i) .nil)))) fun p120 H124 np123 c121 r122 => ?_
   have r0 := Ty.ex r0 c121
   have c0 := c0.trans c121.none
   obtain rfl := Option.some.inj hm
   exact hQ _ _ c0 r122 
abbrev s_l_words : Stmt := topS 50
abbrev N_l_words : List Str := ["_law_orders", "_law_order_here"]
theorem sc_l_words : FnScope ["_law_orders", "_law_order_here"] ["_law_orders"] (defScope s_l_words) := ⟨rfl, rfl, rfl, by decide +kernel, rfl, by decide +kernel, by decide +kernel⟩
def sp_l_words (K : PySem.W.Frag) (C_Gate : Addr) : Sp := fun vs H Q _ => ∃ (v0 : V) (F0 : List Addr) (d0 : (List (List (Int ⊕ (List Nat) ⊕ ((List Int)))))) (r : (List ((List Nat) × Int))), vs = [v0] ∧ (yLst (yTupL (ySum yInt (ySum yStr (yObj C_Gate nm_Gate ty_Gate))))).rep K H F0 v0 d0 ∧ Mi.m_l_words d0 = some r ∧ ∀ v H' F, Chg ([]) H H' → (yLst (yTup (sCons yStr (sOne yInt)))).rep K H' F v r → (∀ a ∈ F, H a = none) → Q v H'
theorem ok_l_words (B : Bi mg) (CN : Cs K mg) (D : Dfn K mg "_law_words" s_l_words) {C_Gate : Addr} (T_Gate : Tx K mg C_Gate "Gate" nm_Gate) : Cal P w K mg "_law_words" ["_law_orders"] 1 (sp_l_words K C_Gate) := by
 obtain ⟨f, fd, F, g⟩ := D.ex
 refine ⟨f, fd, g, F.kp, bindsF F (fun _ _ _ _ _ _ us hl => match us, hl with | [_], _ => rfl), fun base => F.ok sc_l_words (fun vs H Q E h => ?_) (fun cdv A outer s H0 vs Q E hr h => ?_)⟩
 · obtain ⟨v0, F0, d0, r, rfl, r0, hm, hQ⟩ := h; rfl
 ·
   obtain ⟨v0, F0, d0, r, rfl, r0, hm, hQ⟩ := h
   refine ⟨_, pss_cons (ps_ret (pe_lc (own := [("_law_order_here", 1)]) rfl sc_l_words.nd (pi_list (pv 0)) (blkOk_by (own := [("_law_order_here", 1)]) (N := N_l_words) (sc := defScope s_l_words) (by decide +kernel)) (fun _ _ _ _ _ => (pg_name (i := 1) sc_l_words.nd rfl (.inl rfl))) (fun _ _ _ _ _ => pts_nil) (fun _ _ _ _ _ => (pe_tup (pa_cons (pe_ix (ix_t (K := K)) (pv 1) pe_int (fun _ _ => rfl)) (pa_cons (pe_ix (ix_t (K := K)) (pv 1) pe_int (fun _ _ => rfl)) pa_nil)))))) pss_nil, ?_⟩
   have c0 : Chg ([] : List Addr) H0 H0 := Chg.refl H0
   unfold Mi.m_l_words at hm
   refine q_ret ?_
   refine w_lc ?_
   refine w_iList ?_
   refine c_val (val_var rfl) ?_
   obtain ⟨e2, he2, hm⟩ := Mi.bnd hm
   refine kc_lst (K := K) (τ := (yTup (sCons yStr (sOne yInt)))) r0 (fun D4 i H' => ∃ (s3 : (List ((List Nat) × Int))), Chg ([] : List Addr) H0 H' ∧ (yLst (yTupL (ySum yInt (ySum yStr (yObj C_Gate nm_Gate ty_Gate))))).rep K H' F0 v0 d0 ∧ (yLst (yTup (sCons yStr (sOne yInt)))).rep K H' [D4] (.ref D4) s3 ∧ Dj F0 [D4] ∧ (∀ a ∈ [D4], H0 a = none) ∧ Mi.forN (Mi.m_l_words_b1) s3 (List.drop i d0) = some e2) (fun D4 H11 np10 c9 r5 => ⟨([] : (List ((List Nat) × Int))), c0.trans c9.none, (Ty.ex r0 c9), r5, Ty.nin r0 np10, one_fresh (c0.dom D4 np10), he2⟩) (fun D4 i H' hp => by obtain ⟨s3, c0, r0, r5, d6, n8, _⟩ := hp; exact r0) (fun D4 i14 x13 u16 H15 hx12 r17 hp => ?_) (fun D4 H' np10 hp => ?_)
   ·
     obtain ⟨s3, c0, r0, r5, d6, n8, hle2⟩ := hp
     obtain ⟨_, hbe2, hle2⟩ := Mi.forN_go hle2 hx12
     unfold Mi.m_l_words_b1 at hbe2
     refine g_name (σ' := [some v0, some u16]) rfl ?_
     refine ⟨rfl, ?_⟩
     refine w_yes ?_
     refine iteT ?_
     refine w_tup ?_
     obtain ⟨x22, hx22, hbe2⟩ := Mi.bnd hbe2
     obtain ⟨u23, r24, ku25⟩ := itm_T r17 hx22
     obtain ⟨x26, hx26, hbe2⟩ := Mi.bnd hbe2
     have r27 := sum_R r24 hx26
     obtain ⟨x28, hx28, hbe2⟩ := Mi.bnd hbe2
     have r29 := sum_L r27 hx28
     obtain ⟨_, rfl⟩ := r29
     obtain ⟨x30, hx30, hbe2⟩ := Mi.bnd hbe2
     obtain ⟨u31, r32, ku33⟩ := itm_T r17 hx30
     obtain ⟨x34, hx34, hbe2⟩ := Mi.bnd hbe2
     have r35 := sum_L r32 hx34
     obtain ⟨_, rfl⟩ := r35
     refine w_args (va_cons (ku25 (val_var rfl) val_c) (va_cons (ku33 (val_var rfl) val_c) va_nil)) ?_
     refine e_tup (K := K) (ty := (sCons yStr (sOne yInt))) (F := []) (d := (x28, x34)) (by exact Nat.le_of_ble_eq_true rfl) ⟨_, _, _, _, rfl, rfl, yStr_i, ⟨_, rfl, yInt_i⟩⟩ fun p36 H40 np39 c37 r38  => ?_
     have r0 := Ty.ex r0 c37
     have r17 := Ty.fz r17 c37
     have r5 := Ty.ex r5 c37
     have c0 := c0.trans c37.none
     obtain ⟨x41, hx41, hbe2⟩ := Mi.bnd hbe2
     refine e_app r5 r38 hx41 fun H43 c42 r5 => ?_
     have r0 := Ty.chg r0 c42 d6
     have r17 := Ty.fz r17 c42
     have c0 := c0.join c42 (fun a h => .inr (n8 a h))
     obtain rfl := Option.some.inj hbe2
     exact ⟨x41, c0, r0, r5, d6, n8, hle2⟩
   obtain ⟨s3, c0, r0, r5, d6, n8, hle2⟩ := hp
   obtain rfl := Mi.forN_end hle2
   obtain rfl := Option.some.inj hm
   exact hQ _ _ _ c0 r5 n8 
abbrev s_l_gates_stay : Stmt := topS 51
theorem sc_l_gates_stay : FnScope ["_law_orders", "_law_plains_here", "_law_k"] ["_law_orders", "_law_plains_here"] (defScope s_l_gates_stay) := ⟨rfl, rfl, rfl, by decide +kernel, rfl, by decide +kernel, by decide +kernel⟩
def sp_l_gates_stay (K : PySem.W.Frag) (C_Gate : Addr) : Sp := fun vs H Q _ => ∃ (v0 : V) (F0 : List Addr) (d0 : (List (List (Int ⊕ (List Nat) ⊕ ((List Int)))))) (v1 : V) (F1 : List Addr) (d1 : (List ((List Nat) × Int × Int × Int × (List Int)))) (r : Bool), vs = [v0, v1] ∧ (yLst (yTupL (ySum yInt (ySum yStr (yObj C_Gate nm_Gate ty_Gate))))).rep K H F0 v0 d0 ∧ (yLsg (yTup (sCons yStr (sCons yInt (sCons yInt (sCons yInt (sOne (yLst yInt)))))))).rep K H F1 v1 d1 ∧ Mi.m_l_gates_stay d0 d1 = some r ∧ ∀ H', Chg ([]) H H' → Q (.bl r) H'
theorem ok_l_gates_stay (B : Bi mg) (CN : Cs K mg) (D : Dfn K mg "_law_gates_stay" s_l_gates_stay) {C_Gate : Addr} (T_Gate : Tx K mg C_Gate "Gate" nm_Gate) : Cal P w K mg "_law_gates_stay" ["_law_orders", "_law_plains_here"] 1 (sp_l_gates_stay K C_Gate) := by
 obtain ⟨f, fd, F, g⟩ := D.ex
 refine ⟨f, fd, g, F.kp, bindsF F (fun _ _ _ _ _ _ us hl => match us, hl with | [_, _], _ => rfl), fun base => F.ok sc_l_gates_stay (fun vs H Q E h => ?_) (fun cdv A outer s H0 vs Q E hr h => ?_)⟩
 · obtain ⟨v0, F0, d0, v1, F1, d1, r, rfl, r0, r1, hm, hQ⟩ := h; rfl
 ·
   obtain ⟨v0, F0, d0, v1, F1, d1, r, rfl, r0, r1, hm, hQ⟩ := h
   refine ⟨_, pss_cons (ps_for PassesOwn.never rfl (pi_range1 (by rfl) B.range (pa_cons (pe_callB (cl_len (K := K)) (by rfl) B.len PySem.boot_len (pa_cons (pv 1) pa_nil)) pa_nil)) (pg_name (i := 2) sc_l_gates_stay.nd rfl (.inl rfl)) (pss_cons (ps_if (PW.pt (pw_or (pt_cmpR op_ne (pe_callB (cl_len (K := K)) (by rfl) B.len PySem.boot_len (pa_cons (pe_ix (ix_l (K := K)) (pv 0) (pv 2) (fun _ _ => rfl)) pa_nil)) pe_int (nomark _)) (pw_or (pt_cmpR op_eq (pe_ix (ix_t (K := K)) (pe_ix (ix_l (K := K)) (pv 1) (pv 2) (fun _ _ => rfl)) pe_int (fun _ _ => rfl)) pe_str (nomark _)) (pw_or1 (pt_cmpR op_eq (pe_ix (ix_t (K := K)) (pe_ix (ix_l (K := K)) (pv 1) (pv 2) (fun _ _ => rfl)) pe_int (fun _ _ => rfl)) pe_str (nomark _)))))) (pss_cons ps_continue pss_nil) (pss_nil))
     (pss_cons (ps_if (pt_cmpR (op_ne_d hr.units) (pe_callTy (cl_list (K := K)) (by rfl) B.list (by decide +kernel) (pa_cons (pe_fldk (K := K) (pe_ix (ix_t (K := K)) (pe_ix (ix_l (K := K)) (pv 0) (pv 2) (fun _ _ => rfl)) pe_int (fun _ _ => rfl)) (by rfl)) pa_nil)) (pe_callB (cl_sortedL (K := K)) (by rfl) B.sorted (by decide +kernel) (pa_cons (pe_ix (ix_t (K := K)) (pe_ix (ix_l (K := K)) (pv 1) (pv 2) (fun _ _ => rfl)) pe_int (fun _ _ => rfl)) pa_nil)) (nomark _)) (pss_cons (ps_ret pe_bl) pss_nil) (pss_nil))
     (pss_nil))))
     (pss_cons (ps_ret pe_bl) pss_nil), ?_⟩
   have c0 : Chg ([] : List Addr) H0 H0 := Chg.refl H0
   unfold Mi.m_l_gates_stay at hm
   refine q_for ?_
   refine w_iRng1 ?_
   refine w_args (va_cons (val_lenG r1 (val_var rfl)) va_nil) ?_
   obtain ⟨g3, hg3, hm⟩ := Mi.bnd hm
   obtain ⟨e4, he4, hm⟩ := Mi.bnd hm
   refine l_rng1 hg3 (fun i σ' H' => ∃ (s5 : Unit) (y6 : Option V), σ' = [some v0, some v1, y6] ∧ Chg ([] : List Addr) H0 H' ∧ (yLst (yTupL (ySum yInt (ySum yStr (yObj C_Gate nm_Gate ty_Gate))))).rep K H' F0 v0 d0 ∧ (yLsg (yTup (sCons yStr (sCons yInt (sCons yInt (sCons yInt (sOne (yLst yInt)))))))).rep K H' F1 v1 d1 ∧ Mi.forR (Mi.m_l_gates_stay_b1 d0 d1) s5 (List.drop i g3) = some e4) ⟨(), none, rfl, c0, r0, r1, he4⟩ (fun i9 x8 σ' H' hx7 hp => ?_) (fun σ' H' hp => ?_)
   ·
     obtain ⟨s5, y6, rfl, c0, r0, r1, hle4⟩ := hp
     obtain ⟨o10, hbe4, hore4⟩ := Mi.forR_go hle4 hx7
     unfold Mi.m_l_gates_stay_b1 at hbe4
     refine g_name (σ' := [some v0, some v1, some (.int x8)]) rfl ?_
     obtain ⟨x11, hx11, hbe4⟩ := Mi.bnd hbe4
     obtain ⟨u12, r13, ku14⟩ := itm_L r0 hx11
     obtain ⟨b46, hb46, hbe4⟩ := Mi.bnd hbe4
     refine q_if (ans_orO (ans_t (val_neI (val_lenT r13 (ku14 (val_var rfl) (val_var rfl))) val_c)) hb46 (fun hs15 => by (obtain ⟨x16, hx16, hs15⟩ := Mi.bnd hs15; obtain ⟨u17, F18, r19, su20, ap21, kx22, ku23⟩ := itm_G r1 hx16; obtain ⟨u24, F25, r26, su27, kx28, ku29⟩ := itm_tup (n := 0) at0 r19; obtain ⟨rfl, rfl⟩ := r26; obtain ⟨b45, hb45, hs15⟩ := Mi.bnd hs15; cases hs15; exact (ans_orO (ans_t (val_eqS (ku29 (ku23 (val_var rfl) (val_var rfl)) val_c) (val_cS (a := ([98, 121] : List Nat)) (by decide +kernel)))) hb45 (fun hs30 => by (obtain ⟨x31, hx31, hs30⟩ := Mi.bnd hs30; obtain ⟨u32, F33, r34, su35, ap36, kx37, ku38⟩ := itm_G r1 hx31; obtain ⟨u39, F40, r41, su42, kx43, ku44⟩ := itm_tup (n := 0) at0 r34; obtain ⟨rfl, rfl⟩ := r41; cases hs30; exact (ans_t (val_eqS (ku44 (ku38 (val_var rfl) (val_var rfl)) val_c) (val_cS (a := ([102, 114, 111, 109] : List Nat)) (by decide +kernel)))))))))) (fun hb => ?_) (fun hb => ?_)
     ·
       replace hbe4 := Mi.ifT hb hbe4
       refine q_cont ?_
       obtain rfl := Option.some.inj hbe4
       replace hore4 := Mi.or_inr hore4
       exact ⟨_, (some (.int x8)), rfl, c0, r0, r1, hore4⟩
     replace hbe4 := Mi.ifF hb hbe4
     refine w_fall ?_
     refine q_ifS ?_
     refine w_test ?_
     refine w_op ?_
     refine w_cb ?_
     obtain ⟨x47, hx47, hbe4⟩ := Mi.bnd hbe4
     obtain ⟨u48, r49, ku50⟩ := itm_L r0 hx47
     obtain ⟨x51, hx51, hbe4⟩ := Mi.bnd hbe4
     obtain ⟨u52, r53, ku54⟩ := itm_T r49 hx51
     obtain ⟨x55, hx55, hbe4⟩ := Mi.bnd hbe4
     have r56 := sum_R r53 hx55
     obtain ⟨x57, hx57, hbe4⟩ := Mi.bnd hbe4
     have r58 := sum_R r56 hx57
     obtain ⟨u59, r60, kx61, ku62⟩ := fld_obj (n := 0) (f := "hours") at1 (by decide +kernel) rfl T_Gate.cls (T_Gate.na "hours" (by decide +kernel)) r58
     refine w_args (va_cons (ku62 (ku54 (ku50 (val_var rfl) (val_var rfl)) val_c)) va_nil) ?_
     refine w_listT r60 fun p63 H67 np66 c64 r65 => ?_
     have d68 : Dj F0 [p63] := Ty.nin r0 np66
     have d69 : Dj F1 [p63] := Ty.nin r1 np66
     have n70 : ∀ a ∈ [p63], H0 a = none := one_fresh (c0.dom p63 np66)
     have r0 := Ty.ex r0 c64
     have r1 := Ty.ex r1 c64
     have r60 := Ty.fz r60 c64
     have c0 := c0.trans c64.none
     refine w_cb ?_
     obtain ⟨x71, hx71, hbe4⟩ := Mi.bnd hbe4
     obtain ⟨u72, F73, r74, su75, ap76, kx77, ku78⟩ := itm_G r1 hx71
     have d79 : Dj F73 [p63] := Dj.sub (d69) su75
     obtain ⟨u80, F81, r82, su83, kx84, ku85⟩ := itm_tup (n := 4) (atS (atS (atS (atS at1)))) r74
     have d86 : Dj F81 [p63] := Dj.sub (d79) su83
     refine w_args (va_cons (ku85 (ku78 (val_var rfl) (val_var rfl)) val_c) va_nil) ?_
     refine w_sortedL r82 fun p87 H91 np90 c88 r89 => ?_
     have d92 : Dj F0 [p87] := Ty.nin r0 np90
     have d93 : Dj F1 [p87] := Ty.nin r1 np90
     have d94 : Dj [p63] [p87] := Ty.nin r65 np90
     have d95 : Dj F81 [p87] := Ty.nin r82 np90
     have n96 : ∀ a ∈ [p87], H0 a = none := one_fresh (c0.dom p87 np90)
     have r0 := Ty.ex r0 c88
     have r1 := Ty.ex r1 c88
     have r65 := Ty.ex r65 c88
     have r82 := Ty.ex r82 c88
     have c0 := c0.trans c88.none
     refine w_neD (τ := (yLst yInt)) (dat_lst dat_int) r65 r89 ?_
     refine ⟨_, rfl, ?_⟩
     refine c_if (fun hb => ?_) (fun hb => ?_)
     ·
       replace hbe4 := Mi.ifT hb hbe4
       refine q_ret ?_
       refine c_val val_c ?_
       obtain rfl := Option.some.inj hbe4
       obtain rfl := Mi.or_inl hore4
       obtain rfl := Option.some.inj (Mi.orR_inl hm)
       exact hQ _ c0 
     replace hbe4 := Mi.ifF hb hbe4
     refine w_fall ?_
     refine w_nextJ ?_
     obtain rfl := Option.some.inj hbe4
     replace hore4 := Mi.or_inr hore4
     exact ⟨_, (some (.int x8)), rfl, c0, r0, r1, hore4⟩
   obtain ⟨s5, y6, rfl, c0, r0, r1, hle4⟩ := hp
   obtain rfl := Mi.forR_end hle4
   replace hm := Mi.orR_inr hm
   refine q_ret ?_
   refine c_val val_c ?_
   obtain rfl := Option.some.inj hm
   exact hQ _ c0 
abbrev s_l_keeps : Stmt := topS 52
theorem sc_l_keeps : FnScope ["_law_plain_here", "_law_schedule_here", "_law_legs_here", "_law_leaves", "_law_lands"] ["_law_plain_here", "_law_schedule_here", "_law_legs_here"] (defScope s_l_keeps) := ⟨rfl, rfl, rfl, by decide +kernel, rfl, by decide +kernel, by decide +kernel⟩
def sp_l_keeps (K : PySem.W.Frag) : Sp := fun vs H Q _ => ∃ (v0 : V) (F0 : List Addr) (d0 : ((List Nat) × Int × Int × Int × (List Int))) (v1 : V) (F1 : List Addr) (d1 : (List Int)) (v2 : V) (d2 : (List Int)) (r : Bool), vs = [v0, v1, v2] ∧ (yTup (sCons yStr (sCons yInt (sCons yInt (sCons yInt (sOne (yLst yInt))))))).rep K H F0 v0 d0 ∧ (yLst yInt).rep K H F1 v1 d1 ∧ (yFl yInt).rep K H [] v2 d2 ∧ Mi.m_l_keeps d0 d1 d2 = some r ∧ ∀ H', Chg ([]) H H' → Q (.bl r) H'
theorem ok_l_keeps (B : Bi mg) (CN : Cs K mg) (D : Dfn K mg "_law_keeps" s_l_keeps)  : Cal P w K mg "_law_keeps" ["_law_plain_here", "_law_schedule_here", "_law_legs_here"] 1 (sp_l_keeps K) := by
 obtain ⟨f, fd, F, g⟩ := D.ex
 refine ⟨f, fd, g, F.kp, bindsF F (fun _ _ _ _ _ _ us hl => match us, hl with | [_, _, _], _ => rfl), fun base => F.ok sc_l_keeps (fun vs H Q E h => ?_) (fun cdv A outer s H0 vs Q E hr h => ?_)⟩
 · obtain ⟨v0, F0, d0, v1, F1, d1, v2, d2, r, rfl, r0, r1, r2, hm, hQ⟩ := h; rfl
 ·
   obtain ⟨v0, F0, d0, v1, F1, d1, v2, d2, r, rfl, r0, r1, r2, hm, hQ⟩ := h
   refine ⟨_, pss_cons (ps_set (i := 3) sc_l_keeps.nd rfl (.inl rfl) (pe_ix (ix_l (K := K)) (pv 1) (pe_ix (ix_t (K := K)) (pv 0) pe_int (fun _ _ => rfl)) (fun _ _ => rfl)))
     (pss_cons (ps_set (i := 4) sc_l_keeps.nd rfl (.inl rfl) (pe_op op_add (pv 3) (pe_ix (ix_l (K := K)) (pv 2) (pe_ix (ix_t (K := K)) (pv 0) pe_int (fun _ _ => rfl)) (fun _ _ => rfl))))
     (pss_cons (ps_if (pt_cmpR op_eq (pe_ix (ix_t (K := K)) (pv 0) pe_int (fun _ _ => rfl)) pe_str (nomark _)) (pss_cons (ps_ret (pe_cmpR op_ge (pe_ix (ix_l (K := K)) (pv 1) (pe_ix (ix_t (K := K)) (pv 0) pe_int (fun _ _ => rfl)) (fun _ _ => rfl)) (pe_op op_add (pv 4) (pe_ix (ix_t (K := K)) (pv 0) pe_int (fun _ _ => rfl))) (nomark _))) pss_nil) (pss_nil))
     (pss_cons (ps_if (pt_cmpR op_eq (pe_ix (ix_t (K := K)) (pv 0) pe_int (fun _ _ => rfl)) pe_str (nomark _)) (pss_cons (ps_ret (pe_cmpR op_le (pe_ix (ix_l (K := K)) (pv 1) (pe_ix (ix_t (K := K)) (pv 0) pe_int (fun _ _ => rfl)) (fun _ _ => rfl)) (pe_op op_add (pv 3) (pe_ix (ix_t (K := K)) (pv 0) pe_int (fun _ _ => rfl))) (nomark _))) pss_nil) (pss_nil))
     (pss_cons (ps_if (pt_cmpR op_eq (pe_ix (ix_t (K := K)) (pv 0) pe_int (fun _ _ => rfl)) pe_str (nomark _)) (pss_cons (ps_ret (pe_cmpR op_le (pe_op op_add (pe_ix (ix_l (K := K)) (pv 1) (pe_ix (ix_t (K := K)) (pv 0) pe_int (fun _ _ => rfl)) (fun _ _ => rfl)) (pe_ix (ix_l (K := K)) (pv 2) (pe_ix (ix_t (K := K)) (pv 0) pe_int (fun _ _ => rfl)) (fun _ _ => rfl))) (pe_op op_add (pv 4) (pe_ix (ix_t (K := K)) (pv 0) pe_int (fun _ _ => rfl))) (nomark _))) pss_nil) (pss_nil))
     (pss_cons (ps_if (pt_cmpR op_eq (pe_ix (ix_t (K := K)) (pv 0) pe_int (fun _ _ => rfl)) pe_str (nomark _)) (pss_cons (ps_ret (pe_cmpR op_le (pv 4) (pe_ix (ix_t (K := K)) (pv 0) pe_int (fun _ _ => rfl)) (nomark _))) pss_nil) (pss_nil))
     (pss_cons (ps_if (pt_cmpR op_eq (pe_ix (ix_t (K := K)) (pv 0) pe_int (fun _ _ => rfl)) pe_str (nomark _)) (pss_cons (ps_ret (pe_cmpR op_ge (pv 3) (pe_ix (ix_t (K := K)) (pv 0) pe_int (fun _ _ => rfl)) (nomark _))) pss_nil) (pss_nil))
     (pss_cons (ps_if (pt_cmpR op_eq (pe_ix (ix_t (K := K)) (pv 0) pe_int (fun _ _ => rfl)) pe_str (nomark _)) (pss_cons (ps_ret (pe_cmpR (op_in_q (K := K)) (pv 3) (pe_ix (ix_t (K := K)) (pv 0) pe_int (fun _ _ => rfl)) (by rfl))) pss_nil) (pss_nil))
     (pss_cons (ps_ret (pe_cmpR (op_in_q (K := K)) (pv 4) (pe_ix (ix_t (K := K)) (pv 0) pe_int (fun _ _ => rfl)) (by rfl))) pss_nil)))))))), ?_⟩
   have c0 : Chg ([] : List Addr) H0 H0 := Chg.refl H0
   unfold Mi.m_l_keeps at hm
   obtain ⟨u4, F5, r6, su7, kx8, ku9⟩ := itm_tup (n := 1) (atS at0) r0
   obtain ⟨rfl, rfl⟩ := r6
   obtain ⟨x10, hx10, hm⟩ := Mi.bnd hm
   obtain ⟨leaves11, hleaves11, hm⟩ := Mi.letE hm
   refine q_setE (itm_LI r1 hx10 (val_var rfl) (ku9 (val_var rfl) val_c)) (congrArg V.int hleaves11) (σ' := [some v0, some v1, some v2, some (.int leaves11), none]) rfl ?_
   obtain ⟨u12, F13, r14, su15, kx16, ku17⟩ := itm_tup (n := 1) (atS at0) r0
   obtain ⟨rfl, rfl⟩ := r14
   obtain ⟨x18, hx18, hm⟩ := Mi.bnd hm
   obtain ⟨lands19, hlands19, hm⟩ := Mi.letE hm
   refine q_setE (val_add (val_var rfl) (itm_FI r2 hx18 (val_var rfl) (ku17 (val_var rfl) val_c))) (congrArg V.int hlands19) (σ' := [some v0, some v1, some v2, some (.int leaves11), some (.int lands19)]) rfl ?_
   obtain ⟨u20, F21, r22, su23, kx24, ku25⟩ := itm_tup (n := 0) at0 r0
   obtain ⟨rfl, rfl⟩ := r22
   refine q_if (ans_t (val_eqS (ku25 (val_var rfl) val_c) (val_cS (a := ([97, 102, 116, 101, 114] : List Nat)) (by decide +kernel)))) (fun hb => ?_) (fun hb => ?_)
   ·
     replace hm := Mi.ifT hb hm
     refine q_ret ?_
     obtain ⟨u26, F27, r28, su29, kx30, ku31⟩ := itm_tup (n := 2) (atS (atS at0)) r0
     obtain ⟨rfl, rfl⟩ := r28
     obtain ⟨x32, hx32, hm⟩ := Mi.bnd hm
     obtain ⟨u33, F34, r35, su36, kx37, ku38⟩ := itm_tup (n := 3) (atS (atS (atS at0))) r0
     obtain ⟨rfl, rfl⟩ := r35
     refine c_val (val_ge (itm_LI r1 hx32 (val_var rfl) (ku31 (val_var rfl) val_c)) (val_add (val_var rfl) (ku38 (val_var rfl) val_c))) ?_
     obtain rfl := Option.some.inj hm
     exact hQ _ c0 
   replace hm := Mi.ifF hb hm
   refine w_fall ?_
   obtain ⟨u39, F40, r41, su42, kx43, ku44⟩ := itm_tup (n := 0) at0 r0
   obtain ⟨rfl, rfl⟩ := r41
   refine q_if (ans_t (val_eqS (ku44 (val_var rfl) val_c) (val_cS (a := ([119, 105, 116, 104] : List Nat)) (by decide +kernel)))) (fun hb => ?_) (fun hb => ?_)
   ·
     replace hm := Mi.ifT hb hm
     refine q_ret ?_
     obtain ⟨u45, F46, r47, su48, kx49, ku50⟩ := itm_tup (n := 2) (atS (atS at0)) r0
     obtain ⟨rfl, rfl⟩ := r47
     obtain ⟨x51, hx51, hm⟩ := Mi.bnd hm
     obtain ⟨u52, F53, r54, su55, kx56, ku57⟩ := itm_tup (n := 3) (atS (atS (atS at0))) r0
     obtain ⟨rfl, rfl⟩ := r54
     refine c_val (val_le (itm_LI r1 hx51 (val_var rfl) (ku50 (val_var rfl) val_c)) (val_add (val_var rfl) (ku57 (val_var rfl) val_c))) ?_
     obtain rfl := Option.some.inj hm
     exact hQ _ c0 
   replace hm := Mi.ifF hb hm
   refine w_fall ?_
   obtain ⟨u58, F59, r60, su61, kx62, ku63⟩ := itm_tup (n := 0) at0 r0
   obtain ⟨rfl, rfl⟩ := r60
   refine q_if (ans_t (val_eqS (ku63 (val_var rfl) val_c) (val_cS (a := ([108, 97, 110, 100, 115] : List Nat)) (by decide +kernel)))) (fun hb => ?_) (fun hb => ?_)
   ·
     replace hm := Mi.ifT hb hm
     refine q_ret ?_
     obtain ⟨u64, F65, r66, su67, kx68, ku69⟩ := itm_tup (n := 2) (atS (atS at0)) r0
     obtain ⟨rfl, rfl⟩ := r66
     obtain ⟨x70, hx70, hm⟩ := Mi.bnd hm
     obtain ⟨u71, F72, r73, su74, kx75, ku76⟩ := itm_tup (n := 2) (atS (atS at0)) r0
     obtain ⟨rfl, rfl⟩ := r73
     obtain ⟨x77, hx77, hm⟩ := Mi.bnd hm
     obtain ⟨u78, F79, r80, su81, kx82, ku83⟩ := itm_tup (n := 3) (atS (atS (atS at0))) r0
     obtain ⟨rfl, rfl⟩ := r80
     refine c_val (val_le (val_add (itm_LI r1 hx70 (val_var rfl) (ku69 (val_var rfl) val_c)) (itm_FI r2 hx77 (val_var rfl) (ku76 (val_var rfl) val_c))) (val_add (val_var rfl) (ku83 (val_var rfl) val_c))) ?_
     obtain rfl := Option.some.inj hm
     exact hQ _ c0 
   replace hm := Mi.ifF hb hm
   refine w_fall ?_
   obtain ⟨u84, F85, r86, su87, kx88, ku89⟩ := itm_tup (n := 0) at0 r0
   obtain ⟨rfl, rfl⟩ := r86
   refine q_if (ans_t (val_eqS (ku89 (val_var rfl) val_c) (val_cS (a := ([98, 121] : List Nat)) (by decide +kernel)))) (fun hb => ?_) (fun hb => ?_)
   ·
     replace hm := Mi.ifT hb hm
     refine q_ret ?_
     obtain ⟨u90, F91, r92, su93, kx94, ku95⟩ := itm_tup (n := 3) (atS (atS (atS at0))) r0
     obtain ⟨rfl, rfl⟩ := r92
     refine c_val (val_le (val_var rfl) (ku95 (val_var rfl) val_c)) ?_
     obtain rfl := Option.some.inj hm
     exact hQ _ c0 
   replace hm := Mi.ifF hb hm
   refine w_fall ?_
   obtain ⟨u96, F97, r98, su99, kx100, ku101⟩ := itm_tup (n := 0) at0 r0
   obtain ⟨rfl, rfl⟩ := r98
   refine q_if (ans_t (val_eqS (ku101 (val_var rfl) val_c) (val_cS (a := ([102, 114, 111, 109] : List Nat)) (by decide +kernel)))) (fun hb => ?_) (fun hb => ?_)
   ·
     replace hm := Mi.ifT hb hm
     refine q_ret ?_
     obtain ⟨u102, F103, r104, su105, kx106, ku107⟩ := itm_tup (n := 3) (atS (atS (atS at0))) r0
     obtain ⟨rfl, rfl⟩ := r104
     refine c_val (val_ge (val_var rfl) (ku107 (val_var rfl) val_c)) ?_
     obtain rfl := Option.some.inj hm
     exact hQ _ c0 
   replace hm := Mi.ifF hb hm
   refine w_fall ?_
   obtain ⟨u108, F109, r110, su111, kx112, ku113⟩ := itm_tup (n := 0) at0 r0
   obtain ⟨rfl, rfl⟩ := r110
   refine q_if (ans_t (val_eqS (ku113 (val_var rfl) val_c) (val_cS (a := ([103, 97, 116, 101] : List Nat)) (by decide +kernel)))) (fun hb => ?_) (fun hb => ?_)
   ·
     replace hm := Mi.ifT hb hm
     refine q_ret ?_
     obtain ⟨u114, F115, r116, su117, kx118, ku119⟩ := itm_tup (n := 4) (atS (atS (atS (atS at1)))) r0
     refine c_val (val_inL r116 (val_var rfl) (ku119 (val_var rfl) val_c)) ?_
     obtain rfl := Option.some.inj hm
     exact hQ _ c0 
   replace hm := Mi.ifF hb hm
   refine w_fall ?_
   refine q_ret ?_
   obtain ⟨u120, F121, r122, su123, kx124, ku125⟩ := itm_tup (n := 4) (atS (atS (atS (atS at1)))) r0
   refine c_val (val_inL r122 (val_var rfl) (ku125 (val_var rfl) val_c)) ?_
   obtain rfl := Option.some.inj hm
   exact hQ _ c0 
abbrev s_l_all_within : Stmt := topS 53
theorem sc_l_all_within : FnScope ["_law_hours", "_law_x", "_law_low", "_law_high", "_law_d"] ["_law_hours", "_law_x", "_law_low", "_law_high"] (defScope s_l_all_within) := ⟨rfl, rfl, rfl, by decide +kernel, rfl, by decide +kernel, by decide +kernel⟩
def sp_l_all_within (K : PySem.W.Frag) : Sp := fun vs H Q _ => ∃ (v0 : V) (F0 : List Addr) (d0 : (List Int)) (d1 : Int) (d2 : Int) (d3 : Int) (r : Bool), vs = [v0, (.int d1), (.int d2), (.int d3)] ∧ (yLst yInt).rep K H F0 v0 d0 ∧ Mi.m_l_all_within d0 d1 d2 d3 = some r ∧ ∀ H', Chg ([]) H H' → Q (.bl r) H'
theorem ok_l_all_within (B : Bi mg) (CN : Cs K mg) (D : Dfn K mg "_law_all_within" s_l_all_within)  : Cal P w K mg "_law_all_within" ["_law_hours", "_law_x", "_law_low", "_law_high"] 1 (sp_l_all_within K) := by
 obtain ⟨f, fd, F, g⟩ := D.ex
 refine ⟨f, fd, g, F.kp, bindsF F (fun _ _ _ _ _ _ us hl => match us, hl with | [_, _, _, _], _ => rfl), fun base => F.ok sc_l_all_within (fun vs H Q E h => ?_) (fun cdv A outer s H0 vs Q E hr h => ?_)⟩
 · obtain ⟨v0, F0, d0, d1, d2, d3, r, rfl, r0, hm, hQ⟩ := h; rfl
 ·
   obtain ⟨v0, F0, d0, d1, d2, d3, r, rfl, r0, hm, hQ⟩ := h
   refine ⟨_, pss_cons (ps_for PassesOwn.never rfl (pi_range2 (by rfl) B.range (pa_cons (pv 2) (pa_cons (pe_op op_add (pv 3) pe_int) pa_nil))) (pg_name (i := 4) sc_l_all_within.nd rfl (.inl rfl)) (pss_cons (ps_if (pt_cmpR (op_ni_q (K := K)) (pe_op op_add (pv 1) (pv 4)) (pv 0) (by rfl)) (pss_cons (ps_ret pe_bl) pss_nil) (pss_nil))
     (pss_nil)))
     (pss_cons (ps_ret pe_bl) pss_nil), ?_⟩
   have c0 : Chg ([] : List Addr) H0 H0 := Chg.refl H0
   unfold Mi.m_l_all_within at hm
   refine q_for ?_
   refine w_iRng2 ?_
   refine w_args (va_cons (val_var rfl) (va_cons (val_add (val_var rfl) val_c) va_nil)) ?_
   obtain ⟨g5, hg5, hm⟩ := Mi.bnd hm
   obtain ⟨e6, he6, hm⟩ := Mi.bnd hm
   refine l_rng2 hg5 (fun i σ' H' => ∃ (s7 : Unit) (y8 : Option V), σ' = [some v0, some (.int d1), some (.int d2), some (.int d3), y8] ∧ Chg ([] : List Addr) H0 H' ∧ (yLst yInt).rep K H' F0 v0 d0 ∧ Mi.forR (Mi.m_l_all_within_b1 d0 d1) s7 (List.drop i g5) = some e6) ⟨(), none, rfl, c0, r0, he6⟩ (fun i11 x10 σ' H' hx9 hp => ?_) (fun σ' H' hp => ?_)
   ·
     obtain ⟨s7, y8, rfl, c0, r0, hle6⟩ := hp
     obtain ⟨o12, hbe6, hore6⟩ := Mi.forR_go hle6 hx9
     unfold Mi.m_l_all_within_b1 at hbe6
     refine g_name (σ' := [some v0, some (.int d1), some (.int d2), some (.int d3), some (.int x10)]) rfl ?_
     refine q_if (ans_t (val_niL r0 (val_add (val_var rfl) (val_var rfl)) (val_var rfl))) (fun hb => ?_) (fun hb => ?_)
     ·
       replace hbe6 := Mi.ifT hb hbe6
       refine q_ret ?_
       refine c_val val_c ?_
       obtain rfl := Option.some.inj hbe6
       obtain rfl := Mi.or_inl hore6
       obtain rfl := Option.some.inj (Mi.orR_inl hm)
       exact hQ _ c0 
     replace hbe6 := Mi.ifF hb hbe6
     refine w_fall ?_
     refine w_nextJ ?_
     obtain rfl := Option.some.inj hbe6
     replace hore6 := Mi.or_inr hore6
     exact ⟨_, (some (.int x10)), rfl, c0, r0, hore6⟩
   obtain ⟨s7, y8, rfl, c0, r0, hle6⟩ := hp
   obtain rfl := Mi.forR_end hle6
   replace hm := Mi.orR_inr hm
   refine q_ret ?_
   refine c_val val_c ?_
   obtain rfl := Option.some.inj hm
   exact hQ _ c0 
abbrev s_l_always : Stmt := topS 54
theorem sc_l_always : FnScope ["_law_plain_here", "_law_sailings_here", "_law_schedule_here", "_law_i", "_law_j"] ["_law_plain_here", "_law_sailings_here", "_law_schedule_here"] (defScope s_l_always) := ⟨rfl, rfl, rfl, by decide +kernel, rfl, by decide +kernel, by decide +kernel⟩
def sp_l_always (K : PySem.W.Frag) : Sp := fun vs H Q _ => (∃ (v0 : V) (F0 : List Addr) (d0 : ((List Nat) × Int × Int × Int × (List Int))) (v1 : V) (F1 : List Addr) (d1 : (List (Int × Int))) (v2 : V) (F2 : List Addr) (d2 : (List Int)) (r : Bool), vs = [v0, v1, v2] ∧ (yTup (sCons yStr (sCons yInt (sCons yInt (sCons yInt (sOne (yLst yInt))))))).rep K H F0 v0 d0 ∧ (yLst (yTup (sCons yInt (sOne yInt)))).rep K H F1 v1 d1 ∧ (yLst yInt).rep K H F2 v2 d2 ∧ Mi.m_l_always_0 d0 d1 d2 = some r ∧ ∀ H', Chg ([]) H H' → Q (.bl r) H') ∨ (∃ (v0 : V) (F0 : List Addr) (d0 : ((List Nat) × Int × Int × Int × (List Int))) (v1 : V) (F1 : List Addr) (d1 : (List (Int × Int))) (v2 : V) (d2 : (List Int)) (r : Bool), vs = [v0, v1, v2] ∧ (yTup (sCons yStr (sCons yInt (sCons yInt (sCons yInt (sOne (yLst yInt))))))).rep K H F0 v0 d0 ∧ (yLst (yTup (sCons yInt (sOne yInt)))).rep K H F1 v1 d1 ∧ (yFl yInt).rep K H [] v2 d2 ∧ Mi.m_l_always_1 d0 d1 d2 = some r ∧ ∀ H', Chg ([]) H H' → Q (.bl r) H')
theorem ok_l_always (B : Bi mg) (CN : Cs K mg) (D : Dfn K mg "_law_always" s_l_always) (C_l_all_within : Cal P w K mg "_law_all_within" ["_law_hours", "_law_x", "_law_low", "_law_high"] 1 (sp_l_all_within K)) : Cal P w K mg "_law_always" ["_law_plain_here", "_law_sailings_here", "_law_schedule_here"] 2 (sp_l_always K) := by
 obtain ⟨f, fd, F, g⟩ := D.ex
 refine ⟨f, fd, g, F.kp, bindsF F (fun _ _ _ _ _ _ us hl => match us, hl with | [_, _, _], _ => rfl), fun base => F.ok sc_l_always (fun vs H Q E h => ?_) (fun cdv A outer s H0 vs Q E hr h => ?_)⟩
 · rcases h with ⟨v0, F0, d0, v1, F1, d1, v2, F2, d2, r, rfl, r0, r1, r2, hm, hQ⟩ | ⟨v0, F0, d0, v1, F1, d1, v2, d2, r, rfl, r0, r1, r2, hm, hQ⟩
   all_goals rfl
 · rcases h with h | h
   ·
     obtain ⟨v0, F0, d0, v1, F1, d1, v2, F2, d2, r, rfl, r0, r1, r2, hm, hQ⟩ := h
     refine ⟨_, pss_cons (ps_set (i := 3) sc_l_always.nd rfl (.inl rfl) (pe_ix (ix_t (K := K)) (pv 0) pe_int (fun _ _ => rfl)))
     (pss_cons (ps_set (i := 4) sc_l_always.nd rfl (.inl rfl) (pe_ix (ix_t (K := K)) (pv 0) pe_int (fun _ _ => rfl)))
     (pss_cons (ps_if (pt_cmpR op_eq (pe_ix (ix_t (K := K)) (pv 0) pe_int (fun _ _ => rfl)) pe_str (nomark _)) (pss_cons (ps_ret (pe_cmpR op_ge (pe_ix (ix_l (K := K)) (pv 2) (pv 4) (fun _ _ => rfl)) (pe_op op_add (pe_op op_add (pe_ix (ix_l (K := K)) (pv 2) (pv 3) (fun _ _ => rfl)) (pe_ix (ix_t (K := K)) (pe_ix (ix_l (K := K)) (pv 1) (pv 3) (fun _ _ => rfl)) pe_int (fun _ _ => rfl))) (pe_ix (ix_t (K := K)) (pv 0) pe_int (fun _ _ => rfl))) (nomark _))) pss_nil) (pss_nil))
     (pss_cons (ps_if (pt_cmpR op_eq (pe_ix (ix_t (K := K)) (pv 0) pe_int (fun _ _ => rfl)) pe_str (nomark _)) (pss_cons (ps_ret (pe_cmpR op_le (pe_ix (ix_l (K := K)) (pv 2) (pv 4) (fun _ _ => rfl)) (pe_op op_add (pe_ix (ix_l (K := K)) (pv 2) (pv 3) (fun _ _ => rfl)) (pe_ix (ix_t (K := K)) (pv 0) pe_int (fun _ _ => rfl))) (nomark _))) pss_nil) (pss_nil))
     (pss_cons (ps_if (pt_cmpR op_eq (pe_ix (ix_t (K := K)) (pv 0) pe_int (fun _ _ => rfl)) pe_str (nomark _)) (pss_cons (ps_ret (pe_cmpR op_le (pe_op op_add (pe_ix (ix_l (K := K)) (pv 2) (pv 4) (fun _ _ => rfl)) (pe_ix (ix_t (K := K)) (pe_ix (ix_l (K := K)) (pv 1) (pv 4) (fun _ _ => rfl)) pe_int (fun _ _ => rfl))) (pe_op op_add (pe_op op_add (pe_ix (ix_l (K := K)) (pv 2) (pv 3) (fun _ _ => rfl)) (pe_ix (ix_t (K := K)) (pe_ix (ix_l (K := K)) (pv 1) (pv 3) (fun _ _ => rfl)) pe_int (fun _ _ => rfl))) (pe_ix (ix_t (K := K)) (pv 0) pe_int (fun _ _ => rfl))) (nomark _))) pss_nil) (pss_nil))
     (pss_cons (ps_if (pt_cmpR op_eq (pe_ix (ix_t (K := K)) (pv 0) pe_int (fun _ _ => rfl)) pe_str (nomark _)) (pss_cons (ps_ret (pe_cmpR op_le (pe_op op_add (pe_ix (ix_l (K := K)) (pv 2) (pv 3) (fun _ _ => rfl)) (pe_ix (ix_t (K := K)) (pe_ix (ix_l (K := K)) (pv 1) (pv 3) (fun _ _ => rfl)) pe_int (fun _ _ => rfl))) (pe_ix (ix_t (K := K)) (pv 0) pe_int (fun _ _ => rfl)) (nomark _))) pss_nil) (pss_nil))
     (pss_cons (ps_if (pt_cmpR op_eq (pe_ix (ix_t (K := K)) (pv 0) pe_int (fun _ _ => rfl)) pe_str (nomark _)) (pss_cons (ps_ret (pe_cmpR op_ge (pe_ix (ix_l (K := K)) (pv 2) (pv 3) (fun _ _ => rfl)) (pe_ix (ix_t (K := K)) (pv 0) pe_int (fun _ _ => rfl)) (nomark _))) pss_nil) (pss_nil))
     (pss_cons (ps_if (pt_cmpR op_eq (pe_ix (ix_t (K := K)) (pv 0) pe_int (fun _ _ => rfl)) pe_str (nomark _)) (pss_cons (ps_ret (pe_cmpR (op_in_q (K := K)) (pe_ix (ix_l (K := K)) (pv 2) (pv 3) (fun _ _ => rfl)) (pe_ix (ix_t (K := K)) (pv 0) pe_int (fun _ _ => rfl)) (by rfl))) pss_nil) (pss_nil))
     (pss_cons (ps_ret (pe_cc C_l_all_within hr (pa_cons (pe_ix (ix_t (K := K)) (pv 0) pe_int (fun _ _ => rfl)) (pa_cons (pe_ix (ix_l (K := K)) (pv 2) (pv 3) (fun _ _ => rfl)) (pa_cons (pe_ix (ix_t (K := K)) (pe_ix (ix_l (K := K)) (pv 1) (pv 3) (fun _ _ => rfl)) pe_int (fun _ _ => rfl)) (pa_cons (pe_ix (ix_t (K := K)) (pe_ix (ix_l (K := K)) (pv 1) (pv 3) (fun _ _ => rfl)) pe_int (fun _ _ => rfl)) pa_nil)))))) pss_nil)))))))), ?_⟩
     have c0 : Chg ([] : List Addr) H0 H0 := Chg.refl H0
     unfold Mi.m_l_always_0 at hm
     obtain ⟨u4, F5, r6, su7, kx8, ku9⟩ := itm_tup (n := 1) (atS at0) r0
     obtain ⟨rfl, rfl⟩ := r6
     obtain ⟨i10, hi10, hm⟩ := Mi.letE hm
     refine q_setE (ku9 (val_var rfl) val_c) (congrArg V.int hi10) (σ' := [some v0, some v1, some v2, some (.int i10), none]) rfl ?_
     obtain ⟨u11, F12, r13, su14, kx15, ku16⟩ := itm_tup (n := 2) (atS (atS at0)) r0
     obtain ⟨rfl, rfl⟩ := r13
     obtain ⟨j17, hj17, hm⟩ := Mi.letE hm
     refine q_setE (ku16 (val_var rfl) val_c) (congrArg V.int hj17) (σ' := [some v0, some v1, some v2, some (.int i10), some (.int j17)]) rfl ?_
     obtain ⟨u18, F19, r20, su21, kx22, ku23⟩ := itm_tup (n := 0) at0 r0
     obtain ⟨rfl, rfl⟩ := r20
     refine q_if (ans_t (val_eqS (ku23 (val_var rfl) val_c) (val_cS (a := ([97, 102, 116, 101, 114] : List Nat)) (by decide +kernel)))) (fun hb => ?_) (fun hb => ?_)
     ·
       replace hm := Mi.ifT hb hm
       refine q_ret ?_
       obtain ⟨x24, hx24, hm⟩ := Mi.bnd hm
       obtain ⟨x25, hx25, hm⟩ := Mi.bnd hm
       obtain ⟨x26, hx26, hm⟩ := Mi.bnd hm
       obtain ⟨u27, r28, ku29⟩ := itm_L r1 hx26
       obtain ⟨u30, F31, r32, su33, kx34, ku35⟩ := itm_tup (n := 1) (atS at1) r28
       obtain ⟨rfl, rfl⟩ := r32
       obtain ⟨u36, F37, r38, su39, kx40, ku41⟩ := itm_tup (n := 3) (atS (atS (atS at0))) r0
       obtain ⟨rfl, rfl⟩ := r38
       refine c_val (val_ge (itm_LI r2 hx24 (val_var rfl) (val_var rfl)) (val_add (val_add (itm_LI r2 hx25 (val_var rfl) (val_var rfl)) (ku35 (ku29 (val_var rfl) (val_var rfl)) val_c)) (ku41 (val_var rfl) val_c))) ?_
       obtain rfl := Option.some.inj hm
       exact hQ _ c0 
     replace hm := Mi.ifF hb hm
     refine w_fall ?_
     obtain ⟨u42, F43, r44, su45, kx46, ku47⟩ := itm_tup (n := 0) at0 r0
     obtain ⟨rfl, rfl⟩ := r44
     refine q_if (ans_t (val_eqS (ku47 (val_var rfl) val_c) (val_cS (a := ([119, 105, 116, 104] : List Nat)) (by decide +kernel)))) (fun hb => ?_) (fun hb => ?_)
     ·
       replace hm := Mi.ifT hb hm
       refine q_ret ?_
       obtain ⟨x48, hx48, hm⟩ := Mi.bnd hm
       obtain ⟨x49, hx49, hm⟩ := Mi.bnd hm
       obtain ⟨u50, F51, r52, su53, kx54, ku55⟩ := itm_tup (n := 3) (atS (atS (atS at0))) r0
       obtain ⟨rfl, rfl⟩ := r52
       refine c_val (val_le (itm_LI r2 hx48 (val_var rfl) (val_var rfl)) (val_add (itm_LI r2 hx49 (val_var rfl) (val_var rfl)) (ku55 (val_var rfl) val_c))) ?_
       obtain rfl := Option.some.inj hm
       exact hQ _ c0 
     replace hm := Mi.ifF hb hm
     refine w_fall ?_
     obtain ⟨u56, F57, r58, su59, kx60, ku61⟩ := itm_tup (n := 0) at0 r0
     obtain ⟨rfl, rfl⟩ := r58
     refine q_if (ans_t (val_eqS (ku61 (val_var rfl) val_c) (val_cS (a := ([108, 97, 110, 100, 115] : List Nat)) (by decide +kernel)))) (fun hb => ?_) (fun hb => ?_)
     ·
       replace hm := Mi.ifT hb hm
       refine q_ret ?_
       obtain ⟨x62, hx62, hm⟩ := Mi.bnd hm
       obtain ⟨x63, hx63, hm⟩ := Mi.bnd hm
       obtain ⟨u64, r65, ku66⟩ := itm_L r1 hx63
       obtain ⟨u67, F68, r69, su70, kx71, ku72⟩ := itm_tup (n := 1) (atS at1) r65
       obtain ⟨rfl, rfl⟩ := r69
       obtain ⟨x73, hx73, hm⟩ := Mi.bnd hm
       obtain ⟨x74, hx74, hm⟩ := Mi.bnd hm
       obtain ⟨u75, r76, ku77⟩ := itm_L r1 hx74
       obtain ⟨u78, F79, r80, su81, kx82, ku83⟩ := itm_tup (n := 0) at0 r76
       obtain ⟨rfl, rfl⟩ := r80
       obtain ⟨u84, F85, r86, su87, kx88, ku89⟩ := itm_tup (n := 3) (atS (atS (atS at0))) r0
       obtain ⟨rfl, rfl⟩ := r86
       refine c_val (val_le (val_add (itm_LI r2 hx62 (val_var rfl) (val_var rfl)) (ku72 (ku66 (val_var rfl) (val_var rfl)) val_c)) (val_add (val_add (itm_LI r2 hx73 (val_var rfl) (val_var rfl)) (ku83 (ku77 (val_var rfl) (val_var rfl)) val_c)) (ku89 (val_var rfl) val_c))) ?_
       obtain rfl := Option.some.inj hm
       exact hQ _ c0 
     replace hm := Mi.ifF hb hm
     refine w_fall ?_
     obtain ⟨u90, F91, r92, su93, kx94, ku95⟩ := itm_tup (n := 0) at0 r0
     obtain ⟨rfl, rfl⟩ := r92
     refine q_if (ans_t (val_eqS (ku95 (val_var rfl) val_c) (val_cS (a := ([98, 121] : List Nat)) (by decide +kernel)))) (fun hb => ?_) (fun hb => ?_)
     ·
       replace hm := Mi.ifT hb hm
       refine q_ret ?_
       obtain ⟨x96, hx96, hm⟩ := Mi.bnd hm
       obtain ⟨x97, hx97, hm⟩ := Mi.bnd hm
       obtain ⟨u98, r99, ku100⟩ := itm_L r1 hx97
       obtain ⟨u101, F102, r103, su104, kx105, ku106⟩ := itm_tup (n := 1) (atS at1) r99
       obtain ⟨rfl, rfl⟩ := r103
       obtain ⟨u107, F108, r109, su110, kx111, ku112⟩ := itm_tup (n := 3) (atS (atS (atS at0))) r0
       obtain ⟨rfl, rfl⟩ := r109
       refine c_val (val_le (val_add (itm_LI r2 hx96 (val_var rfl) (val_var rfl)) (ku106 (ku100 (val_var rfl) (val_var rfl)) val_c)) (ku112 (val_var rfl) val_c)) ?_
       obtain rfl := Option.some.inj hm
       exact hQ _ c0 
     replace hm := Mi.ifF hb hm
     refine w_fall ?_
     obtain ⟨u113, F114, r115, su116, kx117, ku118⟩ := itm_tup (n := 0) at0 r0
     obtain ⟨rfl, rfl⟩ := r115
     refine q_if (ans_t (val_eqS (ku118 (val_var rfl) val_c) (val_cS (a := ([102, 114, 111, 109] : List Nat)) (by decide +kernel)))) (fun hb => ?_) (fun hb => ?_)
     ·
       replace hm := Mi.ifT hb hm
       refine q_ret ?_
       obtain ⟨x119, hx119, hm⟩ := Mi.bnd hm
       obtain ⟨u120, F121, r122, su123, kx124, ku125⟩ := itm_tup (n := 3) (atS (atS (atS at0))) r0
       obtain ⟨rfl, rfl⟩ := r122
       refine c_val (val_ge (itm_LI r2 hx119 (val_var rfl) (val_var rfl)) (ku125 (val_var rfl) val_c)) ?_
       obtain rfl := Option.some.inj hm
       exact hQ _ c0 
     replace hm := Mi.ifF hb hm
     refine w_fall ?_
     obtain ⟨u126, F127, r128, su129, kx130, ku131⟩ := itm_tup (n := 0) at0 r0
     obtain ⟨rfl, rfl⟩ := r128
     refine q_if (ans_t (val_eqS (ku131 (val_var rfl) val_c) (val_cS (a := ([103, 97, 116, 101] : List Nat)) (by decide +kernel)))) (fun hb => ?_) (fun hb => ?_)
     ·
       replace hm := Mi.ifT hb hm
       refine q_ret ?_
       obtain ⟨x132, hx132, hm⟩ := Mi.bnd hm
       obtain ⟨u133, F134, r135, su136, kx137, ku138⟩ := itm_tup (n := 4) (atS (atS (atS (atS at1)))) r0
       refine c_val (val_inL r135 (itm_LI r2 hx132 (val_var rfl) (val_var rfl)) (ku138 (val_var rfl) val_c)) ?_
       obtain rfl := Option.some.inj hm
       exact hQ _ c0 
     replace hm := Mi.ifF hb hm
     refine w_fall ?_
     refine q_ret ?_
     refine w_call ?_
     obtain ⟨u139, F140, r141, su142, kx143, ku144⟩ := itm_tup (n := 4) (atS (atS (atS (atS at1)))) r0
     obtain ⟨x145, hx145, hm⟩ := Mi.bnd hm
     obtain ⟨x146, hx146, hm⟩ := Mi.bnd hm
     obtain ⟨u147, r148, ku149⟩ := itm_L r1 hx146
     obtain ⟨u150, F151, r152, su153, kx154, ku155⟩ := itm_tup (n := 0) at0 r148
     obtain ⟨rfl, rfl⟩ := r152
     obtain ⟨x156, hx156, hm⟩ := Mi.bnd hm
     obtain ⟨u157, r158, ku159⟩ := itm_L r1 hx156
     obtain ⟨u160, F161, r162, su163, kx164, ku165⟩ := itm_tup (n := 1) (atS at1) r158
     obtain ⟨rfl, rfl⟩ := r162
     refine w_args (va_cons (ku144 (val_var rfl) val_c) (va_cons (itm_LI r2 hx145 (val_var rfl) (val_var rfl)) (va_cons (ku155 (ku149 (val_var rfl) (val_var rfl)) val_c) (va_cons (ku165 (ku159 (val_var rfl) (val_var rfl)) val_c) va_nil)))) ?_
     obtain ⟨q166, hq166, hm⟩ := Mi.bnd hm
     refine ⟨u139, F140, d0.2.2.2.2, x145, x146.1, x156.2, q166, rfl, r141, hq166, fun H168 c167  => ?_⟩
     have r0 := Ty.ex r0 c167
     have r1 := Ty.ex r1 c167
     have r2 := Ty.ex r2 c167
     have c0 := c0.trans c167.none
     obtain rfl := Option.some.inj hm
     exact hQ _ c0 
   ·
     obtain ⟨v0, F0, d0, v1, F1, d1, v2, d2, r, rfl, r0, r1, r2, hm, hQ⟩ := h
     refine ⟨_, pss_cons (ps_set (i := 3) sc_l_always.nd rfl (.inl rfl) (pe_ix (ix_t (K := K)) (pv 0) pe_int (fun _ _ => rfl)))
     (pss_cons (ps_set (i := 4) sc_l_always.nd rfl (.inl rfl) (pe_ix (ix_t (K := K)) (pv 0) pe_int (fun _ _ => rfl)))
     (pss_cons (ps_if (pt_cmpR op_eq (pe_ix (ix_t (K := K)) (pv 0) pe_int (fun _ _ => rfl)) pe_str (nomark _)) (pss_cons (ps_ret (pe_cmpR op_ge (pe_ix (ix_l (K := K)) (pv 2) (pv 4) (fun _ _ => rfl)) (pe_op op_add (pe_op op_add (pe_ix (ix_l (K := K)) (pv 2) (pv 3) (fun _ _ => rfl)) (pe_ix (ix_t (K := K)) (pe_ix (ix_l (K := K)) (pv 1) (pv 3) (fun _ _ => rfl)) pe_int (fun _ _ => rfl))) (pe_ix (ix_t (K := K)) (pv 0) pe_int (fun _ _ => rfl))) (nomark _))) pss_nil) (pss_nil))
     (pss_cons (ps_if (pt_cmpR op_eq (pe_ix (ix_t (K := K)) (pv 0) pe_int (fun _ _ => rfl)) pe_str (nomark _)) (pss_cons (ps_ret (pe_cmpR op_le (pe_ix (ix_l (K := K)) (pv 2) (pv 4) (fun _ _ => rfl)) (pe_op op_add (pe_ix (ix_l (K := K)) (pv 2) (pv 3) (fun _ _ => rfl)) (pe_ix (ix_t (K := K)) (pv 0) pe_int (fun _ _ => rfl))) (nomark _))) pss_nil) (pss_nil))
     (pss_cons (ps_if (pt_cmpR op_eq (pe_ix (ix_t (K := K)) (pv 0) pe_int (fun _ _ => rfl)) pe_str (nomark _)) (pss_cons (ps_ret (pe_cmpR op_le (pe_op op_add (pe_ix (ix_l (K := K)) (pv 2) (pv 4) (fun _ _ => rfl)) (pe_ix (ix_t (K := K)) (pe_ix (ix_l (K := K)) (pv 1) (pv 4) (fun _ _ => rfl)) pe_int (fun _ _ => rfl))) (pe_op op_add (pe_op op_add (pe_ix (ix_l (K := K)) (pv 2) (pv 3) (fun _ _ => rfl)) (pe_ix (ix_t (K := K)) (pe_ix (ix_l (K := K)) (pv 1) (pv 3) (fun _ _ => rfl)) pe_int (fun _ _ => rfl))) (pe_ix (ix_t (K := K)) (pv 0) pe_int (fun _ _ => rfl))) (nomark _))) pss_nil) (pss_nil))
     (pss_cons (ps_if (pt_cmpR op_eq (pe_ix (ix_t (K := K)) (pv 0) pe_int (fun _ _ => rfl)) pe_str (nomark _)) (pss_cons (ps_ret (pe_cmpR op_le (pe_op op_add (pe_ix (ix_l (K := K)) (pv 2) (pv 3) (fun _ _ => rfl)) (pe_ix (ix_t (K := K)) (pe_ix (ix_l (K := K)) (pv 1) (pv 3) (fun _ _ => rfl)) pe_int (fun _ _ => rfl))) (pe_ix (ix_t (K := K)) (pv 0) pe_int (fun _ _ => rfl)) (nomark _))) pss_nil) (pss_nil))
     (pss_cons (ps_if (pt_cmpR op_eq (pe_ix (ix_t (K := K)) (pv 0) pe_int (fun _ _ => rfl)) pe_str (nomark _)) (pss_cons (ps_ret (pe_cmpR op_ge (pe_ix (ix_l (K := K)) (pv 2) (pv 3) (fun _ _ => rfl)) (pe_ix (ix_t (K := K)) (pv 0) pe_int (fun _ _ => rfl)) (nomark _))) pss_nil) (pss_nil))
     (pss_cons (ps_if (pt_cmpR op_eq (pe_ix (ix_t (K := K)) (pv 0) pe_int (fun _ _ => rfl)) pe_str (nomark _)) (pss_cons (ps_ret (pe_cmpR (op_in_q (K := K)) (pe_ix (ix_l (K := K)) (pv 2) (pv 3) (fun _ _ => rfl)) (pe_ix (ix_t (K := K)) (pv 0) pe_int (fun _ _ => rfl)) (by rfl))) pss_nil) (pss_nil))
     (pss_cons (ps_ret (pe_cc C_l_all_within hr (pa_cons (pe_ix (ix_t (K := K)) (pv 0) pe_int (fun _ _ => rfl)) (pa_cons (pe_ix (ix_l (K := K)) (pv 2) (pv 3) (fun _ _ => rfl)) (pa_cons (pe_ix (ix_t (K := K)) (pe_ix (ix_l (K := K)) (pv 1) (pv 3) (fun _ _ => rfl)) pe_int (fun _ _ => rfl)) (pa_cons (pe_ix (ix_t (K := K)) (pe_ix (ix_l (K := K)) (pv 1) (pv 3) (fun _ _ => rfl)) pe_int (fun _ _ => rfl)) pa_nil)))))) pss_nil)))))))), ?_⟩
     have c0 : Chg ([] : List Addr) H0 H0 := Chg.refl H0
     unfold Mi.m_l_always_1 at hm
     obtain ⟨u4, F5, r6, su7, kx8, ku9⟩ := itm_tup (n := 1) (atS at0) r0
     obtain ⟨rfl, rfl⟩ := r6
     obtain ⟨i10, hi10, hm⟩ := Mi.letE hm
     refine q_setE (ku9 (val_var rfl) val_c) (congrArg V.int hi10) (σ' := [some v0, some v1, some v2, some (.int i10), none]) rfl ?_
     obtain ⟨u11, F12, r13, su14, kx15, ku16⟩ := itm_tup (n := 2) (atS (atS at0)) r0
     obtain ⟨rfl, rfl⟩ := r13
     obtain ⟨j17, hj17, hm⟩ := Mi.letE hm
     refine q_setE (ku16 (val_var rfl) val_c) (congrArg V.int hj17) (σ' := [some v0, some v1, some v2, some (.int i10), some (.int j17)]) rfl ?_
     obtain ⟨u18, F19, r20, su21, kx22, ku23⟩ := itm_tup (n := 0) at0 r0
     obtain ⟨rfl, rfl⟩ := r20
     refine q_if (ans_t (val_eqS (ku23 (val_var rfl) val_c) (val_cS (a := ([97, 102, 116, 101, 114] : List Nat)) (by decide +kernel)))) (fun hb => ?_) (fun hb => ?_)
     ·
       replace hm := Mi.ifT hb hm
       refine q_ret ?_
       obtain ⟨x24, hx24, hm⟩ := Mi.bnd hm
       obtain ⟨x25, hx25, hm⟩ := Mi.bnd hm
       obtain ⟨x26, hx26, hm⟩ := Mi.bnd hm
       obtain ⟨u27, r28, ku29⟩ := itm_L r1 hx26
       obtain ⟨u30, F31, r32, su33, kx34, ku35⟩ := itm_tup (n := 1) (atS at1) r28
       obtain ⟨rfl, rfl⟩ := r32
       obtain ⟨u36, F37, r38, su39, kx40, ku41⟩ := itm_tup (n := 3) (atS (atS (atS at0))) r0
       obtain ⟨rfl, rfl⟩ := r38
       refine c_val (val_ge (itm_FI r2 hx24 (val_var rfl) (val_var rfl)) (val_add (val_add (itm_FI r2 hx25 (val_var rfl) (val_var rfl)) (ku35 (ku29 (val_var rfl) (val_var rfl)) val_c)) (ku41 (val_var rfl) val_c))) ?_
       obtain rfl := Option.some.inj hm
       exact hQ _ c0 
     replace hm := Mi.ifF hb hm
     refine w_fall ?_
     obtain ⟨u42, F43, r44, su45, kx46, ku47⟩ := itm_tup (n := 0) at0 r0
     obtain ⟨rfl, rfl⟩ := r44
     refine q_if (ans_t (val_eqS (ku47 (val_var rfl) val_c) (val_cS (a := ([119, 105, 116, 104] : List Nat)) (by decide +kernel)))) (fun hb => ?_) (fun hb => ?_)
     ·
       replace hm := Mi.ifT hb hm
       refine q_ret ?_
       obtain ⟨x48, hx48, hm⟩ := Mi.bnd hm
       obtain ⟨x49, hx49, hm⟩ := Mi.bnd hm
       obtain ⟨u50, F51, r52, su53, kx54, ku55⟩ := itm_tup (n := 3) (atS (atS (atS at0))) r0
       obtain ⟨rfl, rfl⟩ := r52
       refine c_val (val_le (itm_FI r2 hx48 (val_var rfl) (val_var rfl)) (val_add (itm_FI r2 hx49 (val_var rfl) (val_var rfl)) (ku55 (val_var rfl) val_c))) ?_
       obtain rfl := Option.some.inj hm
       exact hQ _ c0 
     replace hm := Mi.ifF hb hm
     refine w_fall ?_
     obtain ⟨u56, F57, r58, su59, kx60, ku61⟩ := itm_tup (n := 0) at0 r0
     obtain ⟨rfl, rfl⟩ := r58
     refine q_if (ans_t (val_eqS (ku61 (val_var rfl) val_c) (val_cS (a := ([108, 97, 110, 100, 115] : List Nat)) (by decide +kernel)))) (fun hb => ?_) (fun hb => ?_)
     ·
       replace hm := Mi.ifT hb hm
       refine q_ret ?_
       obtain ⟨x62, hx62, hm⟩ := Mi.bnd hm
       obtain ⟨x63, hx63, hm⟩ := Mi.bnd hm
       obtain ⟨u64, r65, ku66⟩ := itm_L r1 hx63
       obtain ⟨u67, F68, r69, su70, kx71, ku72⟩ := itm_tup (n := 1) (atS at1) r65
       obtain ⟨rfl, rfl⟩ := r69
       obtain ⟨x73, hx73, hm⟩ := Mi.bnd hm
       obtain ⟨x74, hx74, hm⟩ := Mi.bnd hm
       obtain ⟨u75, r76, ku77⟩ := itm_L r1 hx74
       obtain ⟨u78, F79, r80, su81, kx82, ku83⟩ := itm_tup (n := 0) at0 r76
       obtain ⟨rfl, rfl⟩ := r80
       obtain ⟨u84, F85, r86, su87, kx88, ku89⟩ := itm_tup (n := 3) (atS (atS (atS at0))) r0
       obtain ⟨rfl, rfl⟩ := r86
       refine c_val (val_le (val_add (itm_FI r2 hx62 (val_var rfl) (val_var rfl)) (ku72 (ku66 (val_var rfl) (val_var rfl)) val_c)) (val_add (val_add (itm_FI r2 hx73 (val_var rfl) (val_var rfl)) (ku83 (ku77 (val_var rfl) (val_var rfl)) val_c)) (ku89 (val_var rfl) val_c))) ?_
       obtain rfl := Option.some.inj hm
       exact hQ _ c0 
     replace hm := Mi.ifF hb hm
     refine w_fall ?_
     obtain ⟨u90, F91, r92, su93, kx94, ku95⟩ := itm_tup (n := 0) at0 r0
     obtain ⟨rfl, rfl⟩ := r92
     refine q_if (ans_t (val_eqS (ku95 (val_var rfl) val_c) (val_cS (a := ([98, 121] : List Nat)) (by decide +kernel)))) (fun hb => ?_) (fun hb => ?_)
     ·
       replace hm := Mi.ifT hb hm
       refine q_ret ?_
       obtain ⟨x96, hx96, hm⟩ := Mi.bnd hm
       obtain ⟨x97, hx97, hm⟩ := Mi.bnd hm
       obtain ⟨u98, r99, ku100⟩ := itm_L r1 hx97
       obtain ⟨u101, F102, r103, su104, kx105, ku106⟩ := itm_tup (n := 1) (atS at1) r99
       obtain ⟨rfl, rfl⟩ := r103
       obtain ⟨u107, F108, r109, su110, kx111, ku112⟩ := itm_tup (n := 3) (atS (atS (atS at0))) r0
       obtain ⟨rfl, rfl⟩ := r109
       refine c_val (val_le (val_add (itm_FI r2 hx96 (val_var rfl) (val_var rfl)) (ku106 (ku100 (val_var rfl) (val_var rfl)) val_c)) (ku112 (val_var rfl) val_c)) ?_
       obtain rfl := Option.some.inj hm
       exact hQ _ c0 
     replace hm := Mi.ifF hb hm
     refine w_fall ?_
     obtain ⟨u113, F114, r115, su116, kx117, ku118⟩ := itm_tup (n := 0) at0 r0
     obtain ⟨rfl, rfl⟩ := r115
     refine q_if (ans_t (val_eqS (ku118 (val_var rfl) val_c) (val_cS (a := ([102, 114, 111, 109] : List Nat)) (by decide +kernel)))) (fun hb => ?_) (fun hb => ?_)
     ·
       replace hm := Mi.ifT hb hm
       refine q_ret ?_
       obtain ⟨x119, hx119, hm⟩ := Mi.bnd hm
       obtain ⟨u120, F121, r122, su123, kx124, ku125⟩ := itm_tup (n := 3) (atS (atS (atS at0))) r0
       obtain ⟨rfl, rfl⟩ := r122
       refine c_val (val_ge (itm_FI r2 hx119 (val_var rfl) (val_var rfl)) (ku125 (val_var rfl) val_c)) ?_
       obtain rfl := Option.some.inj hm
       exact hQ _ c0 
     replace hm := Mi.ifF hb hm
     refine w_fall ?_
     obtain ⟨u126, F127, r128, su129, kx130, ku131⟩ := itm_tup (n := 0) at0 r0
     obtain ⟨rfl, rfl⟩ := r128
     refine q_if (ans_t (val_eqS (ku131 (val_var rfl) val_c) (val_cS (a := ([103, 97, 116, 101] : List Nat)) (by decide +kernel)))) (fun hb => ?_) (fun hb => ?_)
     ·
       replace hm := Mi.ifT hb hm
       refine q_ret ?_
       obtain ⟨x132, hx132, hm⟩ := Mi.bnd hm
       obtain ⟨u133, F134, r135, su136, kx137, ku138⟩ := itm_tup (n := 4) (atS (atS (atS (atS at1)))) r0
       refine c_val (val_inL r135 (itm_FI r2 hx132 (val_var rfl) (val_var rfl)) (ku138 (val_var rfl) val_c)) ?_
       obtain rfl := Option.some.inj hm
       exact hQ _ c0 
     replace hm := Mi.ifF hb hm
     refine w_fall ?_
     refine q_ret ?_
     refine w_call ?_
     obtain ⟨u139, F140, r141, su142, kx143, ku144⟩ := itm_tup (n := 4) (atS (atS (atS (atS at1)))) r0
     obtain ⟨x145, hx145, hm⟩ := Mi.bnd hm
     obtain ⟨x146, hx146, hm⟩ := Mi.bnd hm
     obtain ⟨u147, r148, ku149⟩ := itm_L r1 hx146
     obtain ⟨u150, F151, r152, su153, kx154, ku155⟩ := itm_tup (n := 0) at0 r148
     obtain ⟨rfl, rfl⟩ := r152
     obtain ⟨x156, hx156, hm⟩ := Mi.bnd hm
     obtain ⟨u157, r158, ku159⟩ := itm_L r1 hx156
     obtain ⟨u160, F161, r162, su163, kx164, ku165⟩ := itm_tup (n := 1) (atS at1) r158
     obtain ⟨rfl, rfl⟩ := r162
     refine w_args (va_cons (ku144 (val_var rfl) val_c) (va_cons (itm_FI r2 hx145 (val_var rfl) (val_var rfl)) (va_cons (ku155 (ku149 (val_var rfl) (val_var rfl)) val_c) (va_cons (ku165 (ku159 (val_var rfl) (val_var rfl)) val_c) va_nil)))) ?_
     obtain ⟨q166, hq166, hm⟩ := Mi.bnd hm
     refine ⟨u139, F140, d0.2.2.2.2, x145, x146.1, x156.2, q166, rfl, r141, hq166, fun H168 c167  => ?_⟩
     have r0 := Ty.ex r0 c167
     have r1 := Ty.ex r1 c167
     have r2 := Ty.fz r2 c167
     have c0 := c0.trans c167.none
     obtain rfl := Option.some.inj hm
     exact hQ _ c0 
abbrev s_l_spoilt : Stmt := topS 55
theorem sc_l_spoilt : FnScope ["_law_hand_here", "_law_order_here", "_law_count", "_law_kind"] ["_law_hand_here", "_law_order_here", "_law_count"] (defScope s_l_spoilt) := ⟨rfl, rfl, rfl, by decide +kernel, rfl, by decide +kernel, by decide +kernel⟩
def sp_l_spoilt (K : PySem.W.Frag) (C_Gate : Addr) : Sp := fun vs H Q _ => ∃ (v0 : V) (F0 : List Addr) (d0 : (List Int)) (v1 : V) (d1 : (List (Int ⊕ (List Nat) ⊕ ((List Int))))) (d2 : Int) (r : ((List (Int ⊕ (List Nat) ⊕ ((List Int)))) × (List Int))), vs = [v0, v1, (.int d2)] ∧ (yLst yInt).rep K H F0 v0 d0 ∧ (yTupL (ySum yInt (ySum yStr (yObj C_Gate nm_Gate ty_Gate)))).rep K H [] v1 d1 ∧ Mi.m_l_spoilt d0 d1 d2 = some r ∧ ∀ v H', Chg (F0) H H' → (yTupL (ySum yInt (ySum yStr (yObj C_Gate nm_Gate ty_Gate)))).rep K H' [] v r.1 → (yLst yInt).rep K H' F0 v0 r.2 → Q v H'
theorem ok_l_spoilt (B : Bi mg) (CN : Cs K mg) (D : Dfn K mg "_law_spoilt" s_l_spoilt) {C_Gate : Addr} (T_Gate : Tx K mg C_Gate "Gate" nm_Gate) (C_l_pick : Cal P w K mg "_law_pick" ["_law_hand_here", "_law_size"] 1 (sp_l_pick K)) : Cal P w K mg "_law_spoilt" ["_law_hand_here", "_law_order_here", "_law_count"] 2 (sp_l_spoilt K C_Gate) := by
 obtain ⟨f, fd, F, g⟩ := D.ex
 refine ⟨f, fd, g, F.kp, bindsF F (fun _ _ _ _ _ _ us hl => match us, hl with | [_, _, _], _ => rfl), fun base => F.ok sc_l_spoilt (fun vs H Q E h => ?_) (fun cdv A outer s H0 vs Q E hr h => ?_)⟩
 · obtain ⟨v0, F0, d0, v1, d1, d2, r, rfl, r0, r1, hm, hQ⟩ := h; rfl
 ·
   obtain ⟨v0, F0, d0, v1, d1, d2, r, rfl, r0, r1, hm, hQ⟩ := h
   refine ⟨_, pss_cons (ps_set (i := 3) sc_l_spoilt.nd rfl (.inl rfl) (pe_cc C_l_pick hr (pa_cons (pv 0) (pa_cons pe_int pa_nil))))
     (pss_cons (ps_if (pt_cmpR op_eq (pv 3) pe_int (nomark _)) (pss_cons (ps_ret (pe_op (op_catTK (K := K)) (pe_tup (pa_cons (pe_ix (ix_l (K := K)) (pe_lst (pa_cons pe_str (pa_cons pe_str (pa_cons pe_str (pa_cons pe_str pa_nil))))) (pe_cc C_l_pick hr (pa_cons (pv 0) (pa_cons pe_int pa_nil))) (fun _ _ => rfl)) pa_nil)) (pe_slice (sl_tA (K := K)) (pv 1) (po_some pe_int) po_none))) pss_nil) (pss_nil))
     (pss_cons (ps_if (PW.pt (pw_and (pt_cmpR op_gt (pv 3) pe_int (nomark _)) (pw_and1 (pt_cmpR op_eq (pe_callB (cl_len (K := K)) (by rfl) B.len PySem.boot_len (pa_cons (pv 1) pa_nil)) pe_int (nomark _))))) (pss_cons (ps_ret (pe_tup (pa_cons (pe_ix (ix_t (K := K)) (pv 1) pe_int (fun _ _ => rfl)) (pa_cons (pe_ix (ix_t (K := K)) (pv 1) pe_int (fun _ _ => rfl)) (pa_cons (pe_ix (ix_l (K := K)) (pe_lst (pa_cons (pe_ix (ix_t (K := K)) (pv 1) pe_int (fun _ _ => rfl)) (pa_cons (pe_ix (ix_t (K := K)) (pv 1) pe_int (fun _ _ => rfl)) (pa_cons (pv 2) (pa_cons (pe_un un_neg pe_int) pa_nil))))) (pe_cc C_l_pick hr (pa_cons (pv 0) (pa_cons pe_int pa_nil))) (fun _ _ => rfl)) (pa_cons (pe_ix (ix_t (K := K)) (pv 1) pe_int (fun _ _ => rfl)) pa_nil)))))) pss_nil) (pss_nil))
     (pss_cons (ps_ret (pe_op (op_catTK (K := K)) (pe_tup (pa_cons (pe_ix (ix_t (K := K)) (pv 1) pe_int (fun _ _ => rfl)) (pa_cons (pe_ix (ix_l (K := K)) (pe_lst (pa_cons (pe_un un_neg pe_int) (pa_cons (pv 2) (pa_cons (pe_op op_add (pv 2) pe_int) (pa_cons pe_int pa_nil))))) (pe_cc C_l_pick hr (pa_cons (pv 0) (pa_cons pe_int pa_nil))) (fun _ _ => rfl)) pa_nil))) (pe_slice (sl_tA (K := K)) (pv 1) (po_some pe_int) po_none))) pss_nil))), ?_⟩
   have c0 : Chg (F0) H0 H0 := Chg.refl H0
   unfold Mi.m_l_spoilt at hm
   refine q_asg ?_
   refine w_call ?_
   refine w_args (va_cons (val_var rfl) (va_cons val_c va_nil)) ?_
   obtain ⟨q4, hq4, hm⟩ := Mi.bnd hm
   refine ⟨v0, F0, d0, (4 : Int), q4, rfl, r0, hq4, fun H6 c5 r0 => ?_⟩
   have r1 := Ty.fz r1 c5
   have c0 := c0.join c5 (fun a h => .inl (h))
   refine g_name (σ' := [some v0, some v1, some (.int d2), some (.int q4.1)]) rfl ?_
   refine q_if (ans_t (val_eqI (val_var rfl) val_c)) (fun hb => ?_) (fun hb => ?_)
   ·
     replace hm := Mi.ifT hb hm
     refine q_ret ?_
     refine w_op ?_
     refine w_tup ?_
     refine w_cons ?_
     refine w_op ?_
     refine w_lst ?_
     refine w_args (va_cons (val_cS (a := ([110, 101, 97, 114] : List Nat)) (by decide +kernel)) (va_cons (val_cS (a := ([65, 102, 116, 101, 114] : List Nat)) (by decide +kernel)) (va_cons (val_cS (a := ([] : List Nat)) (by decide +kernel)) (va_cons (val_cS (a := ([98, 97, 114, 115] : List Nat)) (by decide +kernel)) va_nil)))) ?_
     refine e_lst (K := K) (τ := yStr) (by exact Nat.le_of_ble_eq_true rfl) (.cons yStr_i (.cons yStr_i (.cons yStr_i (.cons yStr_i .nil)))) fun p7 H11 np10 c8 r9 => ?_
     have d12 : Dj F0 [p7] := Ty.nin r0 np10
     have n13 : ∀ a ∈ [p7], H0 a = none := one_fresh (c0.dom p7 np10)
     have r0 := Ty.ex r0 c8
     have r1 := Ty.fz r1 c8
     have c0 := c0.trans c8.none
     refine w_call ?_
     refine w_args (va_cons (val_var rfl) (va_cons val_c va_nil)) ?_
     obtain ⟨q14, hq14, hm⟩ := Mi.bnd hm
     refine ⟨v0, F0, q4.2, (4 : Int), q14, rfl, r0, hq14, fun H16 c15 r0 => ?_⟩
     have r1 := Ty.fz r1 c15
     have r9 := Ty.chg r9 c15 d12.symm
     have c0 := c0.join c15 (fun a h => .inl (h))
     obtain ⟨x17, hx17, hm⟩ := Mi.bnd hm
     refine w_ixL r9 hx17 fun u18 r19 => ?_
     obtain ⟨_, rfl⟩ := r19
     refine w_nil ?_
     refine e_tupl (K := K) (τ := (ySum yInt (ySum yStr (yObj C_Gate nm_Gate ty_Gate)))) (xs := ([(.inr (.inl x17))] : (List (Int ⊕ (List Nat) ⊕ ((List Int)))))) (by exact Nat.le_of_ble_eq_true rfl) (.cons (sum_r (sum_l yStr_i)) .nil) fun p20 H24 np23 c21 r22 => ?_
     have r0 := Ty.ex r0 c21
     have r1 := Ty.fz r1 c21
     have c0 := c0.trans c21.none
     refine w_sl ?_
     refine c_val (val_var rfl) ?_
     refine w_pos ?_
     refine c_val val_c ?_
     refine ⟨_, rfl, ?_⟩
     refine w_pon ?_
     refine w_cutTA r1 fun u25 H27 c26 r28 => ?_
     have r0 := Ty.ex r0 c26
     have r1 := Ty.fz r1 c26
     have r22 := Ty.fz r22 c26
     have c0 := c0.trans c26.none
     obtain ⟨x29, hx29, hm⟩ := Mi.bnd hm
     refine w_catT r22 r28 hx29 fun u30 H32 c31 r33 => ?_
     have r0 := Ty.ex r0 c31
     have r1 := Ty.fz r1 c31
     have r22 := Ty.fz r22 c31
     have r28 := Ty.fz r28 c31
     have c0 := c0.trans c31.none
     obtain rfl := Option.some.inj hm
     exact hQ _ _ c0 r33 r0
   replace hm := Mi.ifF hb hm
   refine w_fall ?_
   refine q_if (ans_andB (ans_t (val_gt (val_var rfl) val_c)) (fun _ => (ans_t (val_eqI (val_lenT r1 (val_var rfl)) val_c)))) (fun hb => ?_) (fun hb => ?_)
   ·
     replace hm := Mi.ifT hb hm
     refine q_ret ?_
     refine w_tup ?_
     refine w_cons ?_
     obtain ⟨x35, hx35, hm⟩ := Mi.bnd hm
     obtain ⟨u36, r37, ku38⟩ := itm_T r1 hx35
     obtain ⟨x39, hx39, hm⟩ := Mi.bnd hm
     have r40 := sum_R r37 hx39
     obtain ⟨x41, hx41, hm⟩ := Mi.bnd hm
     have r42 := sum_L r40 hx41
     obtain ⟨_, rfl⟩ := r42
     refine c_val (ku38 (val_var rfl) val_c) ?_
     refine w_cons ?_
     obtain ⟨x43, hx43, hm⟩ := Mi.bnd hm
     obtain ⟨u44, r45, ku46⟩ := itm_T r1 hx43
     obtain ⟨x47, hx47, hm⟩ := Mi.bnd hm
     have r48 := sum_L r45 hx47
     obtain ⟨_, rfl⟩ := r48
     refine c_val (ku46 (val_var rfl) val_c) ?_
     refine w_cons ?_
     refine w_op ?_
     refine w_lst ?_
     obtain ⟨x49, hx49, hm⟩ := Mi.bnd hm
     obtain ⟨u50, r51, ku52⟩ := itm_T r1 hx49
     obtain ⟨x53, hx53, hm⟩ := Mi.bnd hm
     have r54 := sum_L r51 hx53
     obtain ⟨_, rfl⟩ := r54
     obtain ⟨x55, hx55, hm⟩ := Mi.bnd hm
     obtain ⟨u56, r57, ku58⟩ := itm_T r1 hx55
     obtain ⟨x59, hx59, hm⟩ := Mi.bnd hm
     have r60 := sum_L r57 hx59
     obtain ⟨_, rfl⟩ := r60
     refine w_args (va_cons (ku52 (val_var rfl) val_c) (va_cons (ku58 (val_var rfl) val_c) (va_cons (val_var rfl) (va_cons (val_neg val_c) va_nil)))) ?_
     refine e_lst (K := K) (τ := yInt) (by exact Nat.le_of_ble_eq_true rfl) (.cons yInt_i (.cons yInt_i (.cons yInt_i (.cons yInt_i .nil)))) fun p61 H65 np64 c62 r63 => ?_
     have d66 : Dj F0 [p61] := Ty.nin r0 np64
     have n67 : ∀ a ∈ [p61], H0 a = none := one_fresh (c0.dom p61 np64)
     have r0 := Ty.ex r0 c62
     have r1 := Ty.fz r1 c62
     have c0 := c0.trans c62.none
     refine w_call ?_
     refine w_args (va_cons (val_var rfl) (va_cons val_c va_nil)) ?_
     obtain ⟨q68, hq68, hm⟩ := Mi.bnd hm
     refine ⟨v0, F0, q4.2, (4 : Int), q68, rfl, r0, hq68, fun H70 c69 r0 => ?_⟩
     have r1 := Ty.fz r1 c69
     have r63 := Ty.chg r63 c69 d66.symm
     have c0 := c0.join c69 (fun a h => .inl (h))
     obtain ⟨x71, hx71, hm⟩ := Mi.bnd hm
     refine w_ixL r63 hx71 fun u72 r73 => ?_
     obtain ⟨_, rfl⟩ := r73
     refine w_cons ?_
     obtain ⟨x74, hx74, hm⟩ := Mi.bnd hm
     obtain ⟨u75, r76, ku77⟩ := itm_T r1 hx74
     obtain ⟨x78, hx78, hm⟩ := Mi.bnd hm
     have r79 := sum_L r76 hx78
     obtain ⟨_, rfl⟩ := r79
     refine c_val (ku77 (val_var rfl) val_c) ?_
     refine w_nil ?_
     refine e_tupl (K := K) (τ := (ySum yInt (ySum yStr (yObj C_Gate nm_Gate ty_Gate)))) (xs := ([(.inr (.inl x41)), (.inl x47), (.inl x71), (.inl x78)] : (List (Int ⊕ (List Nat) ⊕ ((List Int)))))) (by exact Nat.le_of_ble_eq_true rfl) (.cons (sum_r (sum_l yStr_i)) (.cons (sum_l yInt_i) (.cons (sum_l yInt_i) (.cons (sum_l yInt_i) .nil)))) fun p80 H84 np83 c81 r82 => ?_
     have r0 := Ty.ex r0 c81
     have r1 := Ty.fz r1 c81
     have c0 := c0.trans c81.none
     obtain rfl := Option.some.inj hm
     exact hQ _ _ c0 r82 r0
   replace hm := Mi.ifF hb hm
   refine w_fall ?_
   refine q_ret ?_
   refine w_op ?_
   refine w_tup ?_
   refine w_cons ?_
   obtain ⟨x85, hx85, hm⟩ := Mi.bnd hm
   obtain ⟨u86, r87, ku88⟩ := itm_T r1 hx85
   obtain ⟨x89, hx89, hm⟩ := Mi.bnd hm
   have r90 := sum_R r87 hx89
   obtain ⟨x91, hx91, hm⟩ := Mi.bnd hm
   have r92 := sum_L r90 hx91
   obtain ⟨_, rfl⟩ := r92
   refine c_val (ku88 (val_var rfl) val_c) ?_
   refine w_cons ?_
   refine w_op ?_
   refine w_lst ?_
   refine w_args (va_cons (val_neg val_c) (va_cons (val_var rfl) (va_cons (val_add (val_var rfl) val_c) (va_cons val_c va_nil)))) ?_
   refine e_lst (K := K) (τ := yInt) (by exact Nat.le_of_ble_eq_true rfl) (.cons yInt_i (.cons yInt_i (.cons yInt_i (.cons yInt_i .nil)))) fun p93 H97 np96 c94 r95 => ?_
   have d98 : Dj F0 [p93] := Ty.nin r0 np96
   have n99 : ∀ a ∈ [p93], H0 a = none := one_fresh (c0.dom p93 np96)
   have r0 := Ty.ex r0 c94
   have r1 := Ty.fz r1 c94
   have c0 := c0.trans c94.none
   refine w_call ?_
   refine w_args (va_cons (val_var rfl) (va_cons val_c va_nil)) ?_
   obtain ⟨q100, hq100, hm⟩ := Mi.bnd hm
   refine ⟨v0, F0, q4.2, (4 : Int), q100, rfl, r0, hq100, fun H102 c101 r0 => ?_⟩
   have r1 := Ty.fz r1 c101
   have r95 := Ty.chg r95 c101 d98.symm
   have c0 := c0.join c101 (fun a h => .inl (h))
   obtain ⟨x103, hx103, hm⟩ := Mi.bnd hm
   refine w_ixL r95 hx103 fun u104 r105 => ?_
   obtain ⟨_, rfl⟩ := r105
   refine w_nil ?_
   refine e_tupl (K := K) (τ := (ySum yInt (ySum yStr (yObj C_Gate nm_Gate ty_Gate)))) (xs := ([(.inr (.inl x91)), (.inl x103)] : (List (Int ⊕ (List Nat) ⊕ ((List Int)))))) (by exact Nat.le_of_ble_eq_true rfl) (.cons (sum_r (sum_l yStr_i)) (.cons (sum_l yInt_i) .nil)) fun p106 H110 np109 c107 r108 => ?_
   have r0 := Ty.ex r0 c107
   have r1 := Ty.fz r1 c107
   have c0 := c0.trans c107.none
   refine w_sl ?_
   refine c_val (val_var rfl) ?_
   refine w_pos ?_
   refine c_val val_c ?_
   refine ⟨_, rfl, ?_⟩
   refine w_pon ?_
   refine w_cutTA r1 fun u111 H113 c112 r114 => ?_
   have r0 := Ty.ex r0 c112
   have r1 := Ty.fz r1 c112
   have r108 := Ty.fz r108 c112
   have c0 := c0.trans c112.none
   obtain ⟨x115, hx115, hm⟩ := Mi.bnd hm
   refine w_catT r108 r114 hx115 fun u116 H118 c117 r119 => ?_
   have r0 := Ty.ex r0 c117
   have r1 := Ty.fz r1 c117
   have r108 := Ty.fz r108 c117
   have r114 := Ty.fz r114 c117
   have c0 := c0.trans c117.none
   obtain rfl := Option.some.inj hm
   exact hQ _ _ c0 r119 r0
abbrev s_l_places : Stmt := topS 56
abbrev N_l_places : List Str := ["_law_hand_here", "_law_count", "_law_many", "_law_turn"]
theorem sc_l_places : FnScope ["_law_hand_here", "_law_count", "_law_many", "_law_turn"] ["_law_hand_here", "_law_count"] (defScope s_l_places) := ⟨rfl, rfl, rfl, by decide +kernel, rfl, by decide +kernel, by decide +kernel⟩
def sp_l_places (K : PySem.W.Frag) : Sp := fun vs H Q _ => ∃ (v0 : V) (F0 : List Addr) (d0 : (List Int)) (d1 : Int) (r : ((List Int) × (List Int))), vs = [v0, (.int d1)] ∧ (yLst yInt).rep K H F0 v0 d0 ∧ Mi.m_l_places d0 d1 = some r ∧ ∀ v H' F, Chg (F0) H H' → (yLst yInt).rep K H' F v r.1 → (∀ a ∈ F, H a = none) → (yLst yInt).rep K H' F0 v0 r.2 → Q v H'
theorem ok_l_places (B : Bi mg) (CN : Cs K mg) (D : Dfn K mg "_law_places" s_l_places) (C_l_pick : Cal P w K mg "_law_pick" ["_law_hand_here", "_law_size"] 1 (sp_l_pick K)) : Cal P w K mg "_law_places" ["_law_hand_here", "_law_count"] 2 (sp_l_places K) := by
 obtain ⟨f, fd, F, g⟩ := D.ex
 refine ⟨f, fd, g, F.kp, bindsF F (fun _ _ _ _ _ _ us hl => match us, hl with | [_, _], _ => rfl), fun base => F.ok sc_l_places (fun vs H Q E h => ?_) (fun cdv A outer s H0 vs Q E hr h => ?_)⟩
 · obtain ⟨v0, F0, d0, d1, r, rfl, r0, hm, hQ⟩ := h; rfl
 ·
   obtain ⟨v0, F0, d0, d1, r, rfl, r0, hm, hQ⟩ := h
   refine ⟨_, pss_cons (ps_set (i := 2) sc_l_places.nd rfl (.inl rfl) (pe_ix (ix_l (K := K)) (pe_lst (pa_cons pe_int (pa_cons pe_int (pa_cons pe_int (pa_cons pe_int pa_nil))))) (pe_cc C_l_pick hr (pa_cons (pv 0) (pa_cons pe_int pa_nil))) (fun _ _ => rfl)))
     (pss_cons (ps_if (pt_cmpR op_eq (pv 1) pe_int (nomark _)) (pss_cons (ps_ret (pe_lst pa_nil)) pss_nil) (pss_nil))
     (pss_cons (ps_ret (pe_lc (own := [("_law_turn", 3)]) rfl sc_l_places.nd (pi_range1 (by rfl) B.range (pa_cons (pv 2) pa_nil)) (blkOk_by (own := [("_law_turn", 3)]) (N := N_l_places) (sc := defScope s_l_places) (by decide +kernel)) (fun _ _ _ _ _ => (pg_name (i := 3) sc_l_places.nd rfl (.inl rfl))) (fun _ _ _ _ _ => pts_nil) (fun _ _ _ _ _ => (pe_cc C_l_pick hr (pa_cons (pv 0) (pa_cons (pv 1) pa_nil)))))) pss_nil)), ?_⟩
   have c0 : Chg (F0) H0 H0 := Chg.refl H0
   unfold Mi.m_l_places at hm
   refine q_asg ?_
   refine w_op ?_
   refine w_lst ?_
   refine w_args (va_cons val_c (va_cons val_c (va_cons val_c (va_cons val_c va_nil)))) ?_
   refine e_lst (K := K) (τ := yInt) (by exact Nat.le_of_ble_eq_true rfl) (.cons yInt_i (.cons yInt_i (.cons yInt_i (.cons yInt_i .nil)))) fun p3 H7 np6 c4 r5 => ?_
   have d8 : Dj F0 [p3] := Ty.nin r0 np6
   have n9 : ∀ a ∈ [p3], H0 a = none := one_fresh (c0.dom p3 np6)
   have r0 := Ty.ex r0 c4
   have c0 := c0.trans c4.none
   refine w_call ?_
   refine w_args (va_cons (val_var rfl) (va_cons val_c va_nil)) ?_
   obtain ⟨q10, hq10, hm⟩ := Mi.bnd hm
   refine ⟨v0, F0, d0, (4 : Int), q10, rfl, r0, hq10, fun H12 c11 r0 => ?_⟩
   have r5 := Ty.chg r5 c11 d8.symm
   have c0 := c0.join c11 (fun a h => .inl (h))
   obtain ⟨x13, hx13, hm⟩ := Mi.bnd hm
   refine w_ixL r5 hx13 fun u14 r15 => ?_
   obtain ⟨_, rfl⟩ := r15
   refine g_name (σ' := [some v0, some (.int d1), some (.int x13), none]) rfl ?_
   refine q_if (ans_t (val_eqI (val_var rfl) val_c)) (fun hb => ?_) (fun hb => ?_)
   ·
     replace hm := Mi.ifT hb hm
     refine q_ret ?_
     refine w_lst ?_
     refine w_args va_nil ?_
     refine e_lst (K := K) (τ := yInt) (by exact Nat.le_of_ble_eq_true rfl) .nil fun p16 H20 np19 c17 r18 => ?_
     have d21 : Dj F0 [p16] := Ty.nin r0 np19
     have n22 : ∀ a ∈ [p16], H0 a = none := one_fresh (c0.dom p16 np19)
     have r0 := Ty.ex r0 c17
     have c0 := c0.trans c17.none
     obtain rfl := Option.some.inj hm
     exact hQ _ _ _ c0 r18 n22 r0
   replace hm := Mi.ifF hb hm
   refine w_fall ?_
   refine q_ret ?_
   refine w_lc ?_
   refine w_iRng1 ?_
   refine w_args (va_cons (val_var rfl) va_nil) ?_
   obtain ⟨g23, hg23, hm⟩ := Mi.bnd hm
   obtain ⟨e24, he24, hm⟩ := Mi.bnd hm
   refine kc_rng1 (K := K) (τ := yInt) hg23 (fun D26 i H' => ∃ (s25 : ((List Int) × (List Int))), Chg (F0) H0 H' ∧ (yLst yInt).rep K H' F0 v0 s25.2 ∧ (yLst yInt).rep K H' [D26] (.ref D26) s25.1 ∧ Dj F0 [D26] ∧ (∀ a ∈ [D26], H0 a = none) ∧ Mi.forN (Mi.m_l_places_b1 d1) s25 (List.drop i g23) = some e24) (fun D26 H33 np32 c31 r27 => ⟨(([] : (List Int)), q10.2), c0.trans c31.none, (Ty.ex r0 c31), r27, Ty.nin r0 np32, one_fresh (c0.dom D26 np32), he24⟩) (fun D26 i36 x35 H37 hx34 hp => ?_) (fun D26 H' np32 hp => ?_)
   ·
     obtain ⟨s25, c0, r0, r27, d28, n30, hle24⟩ := hp
     obtain ⟨_, hbe24, hle24⟩ := Mi.forN_go hle24 hx34
     unfold Mi.m_l_places_b1 at hbe24
     refine g_name (σ' := [some v0, some (.int d1), some (.int x13), some (.int x35)]) rfl ?_
     refine ⟨rfl, ?_⟩
     refine w_yes ?_
     refine iteT ?_
     refine w_call ?_
     refine w_args (va_cons (val_var rfl) (va_cons (val_var rfl) va_nil)) ?_
     obtain ⟨q44, hq44, hbe24⟩ := Mi.bnd hbe24
     refine ⟨v0, F0, s25.2, d1, q44, rfl, r0, hq44, fun H46 c45 r0 => ?_⟩
     have r27 := Ty.chg r27 c45 d28.symm
     have c0 := c0.join c45 (fun a h => .inl (h))
     obtain ⟨x47, hx47, hbe24⟩ := Mi.bnd hbe24
     refine e_app r27 yInt_i hx47 fun H49 c48 r27 => ?_
     have r0 := Ty.chg r0 c48 d28
     have c0 := c0.join c48 (fun a h => .inr (n30 a h))
     obtain rfl := Option.some.inj hbe24
     exact ⟨(x47, q44.2), c0, r0, r27, d28, n30, hle24⟩
   obtain ⟨s25, c0, r0, r27, d28, n30, hle24⟩ := hp
   obtain rfl := Mi.forN_end hle24
   obtain rfl := Option.some.inj hm
   exact hQ _ _ _ c0 r27 n30 r0
abbrev s_l_spoil : Stmt := topS 57
theorem sc_l_spoil : FnScope ["_law_hand_here", "_law_orders", "_law_places_here", "_law_count", "_law_changed", "_law_k"] ["_law_hand_here", "_law_orders", "_law_places_here", "_law_count"] (defScope s_l_spoil) := ⟨rfl, rfl, rfl, by decide +kernel, rfl, by decide +kernel, by decide +kernel⟩
def sp_l_spoil (K : PySem.W.Frag) (C_Gate : Addr) : Sp := fun vs H Q _ => ∃ (v0 : V) (F0 : List Addr) (d0 : (List Int)) (v1 : V) (F1 : List Addr) (d1 : (List (List (Int ⊕ (List Nat) ⊕ ((List Int)))))) (v2 : V) (F2 : List Addr) (d2 : (List Int)) (d3 : Int) (r : ((List (List (Int ⊕ (List Nat) ⊕ ((List Int))))) × (List Int))), vs = [v0, v1, v2, (.int d3)] ∧ (yLst yInt).rep K H F0 v0 d0 ∧ (yLst (yTupL (ySum yInt (ySum yStr (yObj C_Gate nm_Gate ty_Gate))))).rep K H F1 v1 d1 ∧ (yLst yInt).rep K H F2 v2 d2 ∧ Dj F0 F1 ∧ Dj F0 F2 ∧ Mi.m_l_spoil d0 d1 d2 d3 = some r ∧ ∀ v H' F, Chg (F0) H H' → (yLst (yTupL (ySum yInt (ySum yStr (yObj C_Gate nm_Gate ty_Gate))))).rep K H' F v r.1 → (∀ a ∈ F, H a = none) → (yLst yInt).rep K H' F0 v0 r.2 → Q v H'
theorem ok_l_spoil (B : Bi mg) (CN : Cs K mg) (D : Dfn K mg "_law_spoil" s_l_spoil) {C_Gate : Addr} (T_Gate : Tx K mg C_Gate "Gate" nm_Gate) (C_l_spoilt : Cal P w K mg "_law_spoilt" ["_law_hand_here", "_law_order_here", "_law_count"] 2 (sp_l_spoilt K C_Gate)) : Cal P w K mg "_law_spoil" ["_law_hand_here", "_law_orders", "_law_places_here", "_law_count"] 3 (sp_l_spoil K C_Gate) := by
 obtain ⟨f, fd, F, g⟩ := D.ex
 refine ⟨f, fd, g, F.kp, bindsF F (fun _ _ _ _ _ _ us hl => match us, hl with | [_, _, _, _], _ => rfl), fun base => F.ok sc_l_spoil (fun vs H Q E h => ?_) (fun cdv A outer s H0 vs Q E hr h => ?_)⟩
 · obtain ⟨v0, F0, d0, v1, F1, d1, v2, F2, d2, d3, r, rfl, r0, r1, r2, dd0_1, dd0_2, hm, hQ⟩ := h; rfl
 ·
   obtain ⟨v0, F0, d0, v1, F1, d1, v2, F2, d2, d3, r, rfl, r0, r1, r2, dd0_1, dd0_2, hm, hQ⟩ := h
   refine ⟨_, pss_cons (ps_set (i := 4) sc_l_spoil.nd rfl (.inl rfl) (pe_callTy (cl_list (K := K)) (by rfl) B.list (by decide +kernel) (pa_cons (pv 1) pa_nil)))
     (pss_cons (ps_for PassesOwn.never rfl (pi_list (pv 2)) (pg_name (i := 5) sc_l_spoil.nd rfl (.inl rfl)) (pss_cons (ps_asg (pe_cc C_l_spoilt hr (pa_cons (pv 0) (pa_cons (pe_ix (ix_l (K := K)) (pv 4) (pv 5) (fun _ _ => rfl)) (pa_cons (pv 3) pa_nil)))) (pg_sub (pv 4) (pv 5) set_list))
     (pss_nil)))
     (pss_cons (ps_ret (pv 4)) pss_nil)), ?_⟩
   have c0 : Chg (F0) H0 H0 := Chg.refl H0
   unfold Mi.m_l_spoil at hm
   refine q_asg ?_
   refine w_cb ?_
   refine w_args (va_cons (val_var rfl) va_nil) ?_
   refine w_listL r1 fun p5 H9 np8 c6 r7 => ?_
   have d10 : Dj F0 [p5] := Ty.nin r0 np8
   have d11 : Dj F1 [p5] := Ty.nin r1 np8
   have d12 : Dj F2 [p5] := Ty.nin r2 np8
   have n13 : ∀ a ∈ [p5], H0 a = none := one_fresh (c0.dom p5 np8)
   have r0 := Ty.ex r0 c6
   have r1 := Ty.ex r1 c6
   have r2 := Ty.ex r2 c6
   have c0 := c0.trans c6.none
   refine g_name (σ' := [some v0, some v1, some v2, some (.int d3), some (.ref p5), none]) rfl ?_
   refine q_for ?_
   refine w_iList ?_
   refine c_val (val_var rfl) ?_
   obtain ⟨e14, he14, hm⟩ := Mi.bnd hm
   refine l_lst r2 (fun i σ' H' => ∃ (s15 : ((List Int) × (List (List (Int ⊕ (List Nat) ⊕ ((List Int))))))) (y16 : Option V), σ' = [some v0, some v1, some v2, some (.int d3), some (.ref p5), y16] ∧ Chg (F0) H0 H' ∧ (yLst yInt).rep K H' F0 v0 s15.1 ∧ (yLst (yTupL (ySum yInt (ySum yStr (yObj C_Gate nm_Gate ty_Gate))))).rep K H' F1 v1 d1 ∧ (yLst yInt).rep K H' F2 v2 d2 ∧ (yLst (yTupL (ySum yInt (ySum yStr (yObj C_Gate nm_Gate ty_Gate))))).rep K H' [p5] (.ref p5) s15.2 ∧ Mi.forN (Mi.m_l_spoil_b1 d3) s15 (List.drop i d2) = some e14) ⟨(d0, d1), none, rfl, c0, r0, r1, r2, r7, he14⟩ (fun i σ' H' hp => by obtain ⟨s15, y16, rfl, c0, r0, r1, r2, r7, _⟩ := hp; exact r2) (fun i19 x18 u20 σ' H' hx17 r21 hp => ?_) (fun σ' H' hp => ?_)
   ·
     obtain ⟨s15, y16, rfl, c0, r0, r1, r2, r7, hle14⟩ := hp
     obtain ⟨_, hbe14, hle14⟩ := Mi.forN_go hle14 hx17
     unfold Mi.m_l_spoil_b1 at hbe14
     obtain ⟨_, rfl⟩ := r21
     refine g_name (σ' := [some v0, some v1, some v2, some (.int d3), some (.ref p5), some (.int x18)]) rfl ?_
     refine q_asg ?_
     refine w_call ?_
     obtain ⟨x22, hx22, hbe14⟩ := Mi.bnd hbe14
     obtain ⟨u23, r24, ku25⟩ := itm_L r7 hx22
     refine w_args (va_cons (val_var rfl) (va_cons (ku25 (val_var rfl) (val_var rfl)) (va_cons (val_var rfl) va_nil))) ?_
     obtain ⟨q26, hq26, hbe14⟩ := Mi.bnd hbe14
     refine ⟨v0, F0, s15.1, u23, x22, d3, q26, rfl, r0, r24, hq26, fun v29 H28 c27 r30 r0 => ?_⟩
     have r1 := Ty.chg r1 c27 dd0_1.symm
     have r2 := Ty.chg r2 c27 dd0_2.symm
     have r7 := Ty.chg r7 c27 d10.symm
     have c0 := c0.join c27 (fun a h => .inl (h))
     refine w_gsub ?_
     refine c_val (val_var rfl) ?_
     refine c_val (val_var rfl) ?_
     obtain ⟨x31, hx31, hbe14⟩ := Mi.bnd hbe14
     refine m_set r7 r30 hx31 fun H33 c32 r7 => ?_
     have r0 := Ty.chg r0 c32 d10
     have r1 := Ty.chg r1 c32 d11
     have r2 := Ty.chg r2 c32 d12
     have c0 := c0.join c32 (fun a h => .inr (n13 a h))
     refine w_nextJ ?_
     obtain rfl := Option.some.inj hbe14
     exact ⟨_, (some (.int x18)), rfl, c0, r0, r1, r2, r7, hle14⟩
   obtain ⟨s15, y16, rfl, c0, r0, r1, r2, r7, hle14⟩ := hp
   obtain rfl := Mi.forN_end hle14
   refine q_ret ?_
   refine c_val (val_var rfl) ?_
   obtain rfl := Option.some.inj hm
   exact hQ _ _ _ c0 r7 n13 r0
abbrev s_l_asks : Stmt := topS 58
theorem sc_l_asks : FnScope ["_law_plain_here", "_law_sailings_here", "_law_hours", "_law_last", "_law_i", "_law_j", "_law_low", "_law_high", "_law_x"] ["_law_plain_here", "_law_sailings_here", "_law_hours", "_law_last"] (defScope s_l_asks) := ⟨rfl, rfl, rfl, by decide +kernel, rfl, by decide +kernel, by decide +kernel⟩
def sp_l_asks (K : PySem.W.Frag) : Sp := fun vs H Q _ => ∃ (v0 : V) (F0 : List Addr) (d0 : ((List Nat) × Int × Int × Int × (List Int))) (v1 : V) (F1 : List Addr) (d1 : (List (Int × Int))) (v2 : V) (F2 : List Addr) (d2 : (List Int)) (d3 : Int) (r : (Int × Int)), vs = [v0, v1, v2, (.int d3)] ∧ (yTup (sCons yStr (sCons yInt (sCons yInt (sCons yInt (sOne (yLst yInt))))))).rep K H F0 v0 d0 ∧ (yLst (yTup (sCons yInt (sOne yInt)))).rep K H F1 v1 d1 ∧ (yLst yInt).rep K H F2 v2 d2 ∧ Mi.m_l_asks d0 d1 d2 d3 = some r ∧ ∀ v H', Chg ([]) H H' → (yTup (sCons yInt (sOne yInt))).rep K H' [] v r → Q v H'
theorem ok_l_asks (B : Bi mg) (CN : Cs K mg) (D : Dfn K mg "_law_asks" s_l_asks) (C_l_all_within : Cal P w K mg "_law_all_within" ["_law_hours", "_law_x", "_law_low", "_law_high"] 1 (sp_l_all_within K)) : Cal P w K mg "_law_asks" ["_law_plain_here", "_law_sailings_here", "_law_hours", "_law_last"] 2 (sp_l_asks K) := by
 obtain ⟨f, fd, F, g⟩ := D.ex
 refine ⟨f, fd, g, F.kp, bindsF F (fun _ _ _ _ _ _ us hl => match us, hl with | [_, _, _, _], _ => rfl), fun base => F.ok sc_l_asks (fun vs H Q E h => ?_) (fun cdv A outer s H0 vs Q E hr h => ?_)⟩
 · obtain ⟨v0, F0, d0, v1, F1, d1, v2, F2, d2, d3, r, rfl, r0, r1, r2, hm, hQ⟩ := h; rfl
 ·
   obtain ⟨v0, F0, d0, v1, F1, d1, v2, F2, d2, d3, r, rfl, r0, r1, r2, hm, hQ⟩ := h
   refine ⟨_, pss_cons (ps_set (i := 4) sc_l_asks.nd rfl (.inl rfl) (pe_ix (ix_t (K := K)) (pv 0) pe_int (fun _ _ => rfl)))
     (pss_cons (ps_set (i := 5) sc_l_asks.nd rfl (.inl rfl) (pe_ix (ix_t (K := K)) (pv 0) pe_int (fun _ _ => rfl)))
     (pss_cons (ps_if (pt_cmpR op_eq (pe_ix (ix_t (K := K)) (pv 0) pe_int (fun _ _ => rfl)) pe_str (nomark _)) (pss_cons (ps_ret (pe_tup (pa_cons (pv 5) (pa_cons (pe_op op_add (pe_op op_add (pe_ix (ix_l (K := K)) (pv 2) (pv 4) (fun _ _ => rfl)) (pe_ix (ix_t (K := K)) (pe_ix (ix_l (K := K)) (pv 1) (pv 4) (fun _ _ => rfl)) pe_int (fun _ _ => rfl))) (pe_ix (ix_t (K := K)) (pv 0) pe_int (fun _ _ => rfl))) pa_nil)))) pss_nil) (pss_nil))
     (pss_cons (ps_if (pt_cmpR op_eq (pe_ix (ix_t (K := K)) (pv 0) pe_int (fun _ _ => rfl)) pe_str (nomark _)) (pss_cons (ps_ret (pe_tup (pa_cons (pv 4) (pa_cons (pe_op op_sub (pe_ix (ix_l (K := K)) (pv 2) (pv 5) (fun _ _ => rfl)) (pe_ix (ix_t (K := K)) (pv 0) pe_int (fun _ _ => rfl))) pa_nil)))) pss_nil) (pss_nil))
     (pss_cons (ps_if (pt_cmpR op_eq (pe_ix (ix_t (K := K)) (pv 0) pe_int (fun _ _ => rfl)) pe_str (nomark _)) (pss_cons (ps_ret (pe_tup (pa_cons (pv 4) (pa_cons (pe_op op_sub (pe_op op_sub (pe_op op_add (pe_ix (ix_l (K := K)) (pv 2) (pv 5) (fun _ _ => rfl)) (pe_ix (ix_t (K := K)) (pe_ix (ix_l (K := K)) (pv 1) (pv 5) (fun _ _ => rfl)) pe_int (fun _ _ => rfl))) (pe_ix (ix_t (K := K)) (pe_ix (ix_l (K := K)) (pv 1) (pv 4) (fun _ _ => rfl)) pe_int (fun _ _ => rfl))) (pe_ix (ix_t (K := K)) (pv 0) pe_int (fun _ _ => rfl))) pa_nil)))) pss_nil) (pss_nil))
     (pss_cons (ps_if (pt_cmpR op_eq (pe_ix (ix_t (K := K)) (pv 0) pe_int (fun _ _ => rfl)) pe_str (nomark _)) (pss_cons (ps_ret (pe_tup (pa_cons (pv 4) (pa_cons (pe_ix (ix_l (K := K)) (pe_lst (pa_cons pe_int (pa_cons (pe_op op_add (pv 3) pe_int) pa_nil))) (pe_callTy cl_int (by rfl) B.int (by decide +kernel) (pa_cons (pe_cmpR op_gt (pe_op op_add (pe_ix (ix_l (K := K)) (pv 2) (pv 4) (fun _ _ => rfl)) (pe_ix (ix_t (K := K)) (pe_ix (ix_l (K := K)) (pv 1) (pv 4) (fun _ _ => rfl)) pe_int (fun _ _ => rfl))) (pe_ix (ix_t (K := K)) (pv 0) pe_int (fun _ _ => rfl)) (nomark _)) pa_nil)) (fun _ _ => rfl)) pa_nil)))) pss_nil) (pss_nil))
     (pss_cons (ps_if (pt_cmpR op_eq (pe_ix (ix_t (K := K)) (pv 0) pe_int (fun _ _ => rfl)) pe_str (nomark _)) (pss_cons (ps_ret (pe_tup (pa_cons (pv 4) (pa_cons (pe_ix (ix_t (K := K)) (pv 0) pe_int (fun _ _ => rfl)) pa_nil)))) pss_nil) (pss_nil))
     (pss_cons (ps_set (i := 6) sc_l_asks.nd rfl (.inl rfl) pe_int)
     (pss_cons (ps_set (i := 7) sc_l_asks.nd rfl (.inl rfl) pe_int)
     (pss_cons (ps_if (pt_cmpR op_eq (pe_ix (ix_t (K := K)) (pv 0) pe_int (fun _ _ => rfl)) pe_str (nomark _)) (pss_cons (ps_set (i := 6) sc_l_asks.nd rfl (.inl rfl) (pe_ix (ix_t (K := K)) (pe_ix (ix_l (K := K)) (pv 1) (pv 4) (fun _ _ => rfl)) pe_int (fun _ _ => rfl)))
     (pss_cons (ps_set (i := 7) sc_l_asks.nd rfl (.inl rfl) (pe_ix (ix_t (K := K)) (pe_ix (ix_l (K := K)) (pv 1) (pv 4) (fun _ _ => rfl)) pe_int (fun _ _ => rfl)))
     (pss_nil))) (pss_nil))
     (pss_cons (ps_for PassesOwn.never rfl (pi_range2 (by rfl) B.range (pa_cons (pe_ix (ix_l (K := K)) (pv 2) (pv 4) (fun _ _ => rfl)) (pa_cons pe_int pa_nil))) (pg_name (i := 8) sc_l_asks.nd rfl (.inl rfl)) (pss_cons (ps_if (pt_val (pe_cc C_l_all_within hr (pa_cons (pe_ix (ix_t (K := K)) (pv 0) pe_int (fun _ _ => rfl)) (pa_cons (pv 8) (pa_cons (pv 6) (pa_cons (pv 7) pa_nil)))))) (pss_cons (ps_ret (pe_tup (pa_cons (pv 4) (pa_cons (pv 8) pa_nil)))) pss_nil) (pss_nil))
     (pss_nil)))
     (pss_cons (ps_ret (pe_tup (pa_cons (pv 4) (pa_cons (pe_op op_add (pv 3) pe_int) pa_nil)))) pss_nil))))))))))), ?_⟩
   have c0 : Chg ([] : List Addr) H0 H0 := Chg.refl H0
   unfold Mi.m_l_asks at hm
   obtain ⟨u5, F6, r7, su8, kx9, ku10⟩ := itm_tup (n := 1) (atS at0) r0
   obtain ⟨rfl, rfl⟩ := r7
   obtain ⟨i11, hi11, hm⟩ := Mi.letE hm
   refine q_setE (ku10 (val_var rfl) val_c) (congrArg V.int hi11) (σ' := [some v0, some v1, some v2, some (.int d3), some (.int i11), none, none, none, none]) rfl ?_
   obtain ⟨u12, F13, r14, su15, kx16, ku17⟩ := itm_tup (n := 2) (atS (atS at0)) r0
   obtain ⟨rfl, rfl⟩ := r14
   obtain ⟨j18, hj18, hm⟩ := Mi.letE hm
   refine q_setE (ku17 (val_var rfl) val_c) (congrArg V.int hj18) (σ' := [some v0, some v1, some v2, some (.int d3), some (.int i11), some (.int j18), none, none, none]) rfl ?_
   obtain ⟨u19, F20, r21, su22, kx23, ku24⟩ := itm_tup (n := 0) at0 r0
   obtain ⟨rfl, rfl⟩ := r21
   refine q_if (ans_t (val_eqS (ku24 (val_var rfl) val_c) (val_cS (a := ([97, 102, 116, 101, 114] : List Nat)) (by decide +kernel)))) (fun hb => ?_) (fun hb => ?_)
   ·
     replace hm := Mi.ifT hb hm
     refine q_ret ?_
     refine w_tup ?_
     obtain ⟨x25, hx25, hm⟩ := Mi.bnd hm
     obtain ⟨x26, hx26, hm⟩ := Mi.bnd hm
     obtain ⟨u27, r28, ku29⟩ := itm_L r1 hx26
     obtain ⟨u30, F31, r32, su33, kx34, ku35⟩ := itm_tup (n := 1) (atS at1) r28
     obtain ⟨rfl, rfl⟩ := r32
     obtain ⟨u36, F37, r38, su39, kx40, ku41⟩ := itm_tup (n := 3) (atS (atS (atS at0))) r0
     obtain ⟨rfl, rfl⟩ := r38
     refine w_args (va_cons (val_var rfl) (va_cons (val_add (val_add (itm_LI r2 hx25 (val_var rfl) (val_var rfl)) (ku35 (ku29 (val_var rfl) (val_var rfl)) val_c)) (ku41 (val_var rfl) val_c)) va_nil)) ?_
     refine e_tup (K := K) (ty := (sCons yInt (sOne yInt))) (F := []) (d := (j18, ((x25 + x26.2) + d0.2.2.2.1))) (by exact Nat.le_of_ble_eq_true rfl) ⟨_, _, _, _, rfl, rfl, yInt_i, ⟨_, rfl, yInt_i⟩⟩ fun p42 H46 np45 c43 r44  => ?_
     have r0 := Ty.ex r0 c43
     have r1 := Ty.ex r1 c43
     have r2 := Ty.ex r2 c43
     have c0 := c0.trans c43.none
     obtain rfl := Option.some.inj hm
     exact hQ _ _ c0 r44 
   replace hm := Mi.ifF hb hm
   refine w_fall ?_
   obtain ⟨u47, F48, r49, su50, kx51, ku52⟩ := itm_tup (n := 0) at0 r0
   obtain ⟨rfl, rfl⟩ := r49
   refine q_if (ans_t (val_eqS (ku52 (val_var rfl) val_c) (val_cS (a := ([119, 105, 116, 104] : List Nat)) (by decide +kernel)))) (fun hb => ?_) (fun hb => ?_)
   ·
     replace hm := Mi.ifT hb hm
     refine q_ret ?_
     refine w_tup ?_
     obtain ⟨x53, hx53, hm⟩ := Mi.bnd hm
     obtain ⟨u54, F55, r56, su57, kx58, ku59⟩ := itm_tup (n := 3) (atS (atS (atS at0))) r0
     obtain ⟨rfl, rfl⟩ := r56
     refine w_args (va_cons (val_var rfl) (va_cons (val_sub (itm_LI r2 hx53 (val_var rfl) (val_var rfl)) (ku59 (val_var rfl) val_c)) va_nil)) ?_
     refine e_tup (K := K) (ty := (sCons yInt (sOne yInt))) (F := []) (d := (i11, (x53 - d0.2.2.2.1))) (by exact Nat.le_of_ble_eq_true rfl) ⟨_, _, _, _, rfl, rfl, yInt_i, ⟨_, rfl, yInt_i⟩⟩ fun p60 H64 np63 c61 r62  => ?_
     have r0 := Ty.ex r0 c61
     have r1 := Ty.ex r1 c61
     have r2 := Ty.ex r2 c61
     have c0 := c0.trans c61.none
     obtain rfl := Option.some.inj hm
     exact hQ _ _ c0 r62 
   replace hm := Mi.ifF hb hm
   refine w_fall ?_
   obtain ⟨u65, F66, r67, su68, kx69, ku70⟩ := itm_tup (n := 0) at0 r0
   obtain ⟨rfl, rfl⟩ := r67
   refine q_if (ans_t (val_eqS (ku70 (val_var rfl) val_c) (val_cS (a := ([108, 97, 110, 100, 115] : List Nat)) (by decide +kernel)))) (fun hb => ?_) (fun hb => ?_)
   ·
     replace hm := Mi.ifT hb hm
     refine q_ret ?_
     refine w_tup ?_
     obtain ⟨x71, hx71, hm⟩ := Mi.bnd hm
     obtain ⟨x72, hx72, hm⟩ := Mi.bnd hm
     obtain ⟨u73, r74, ku75⟩ := itm_L r1 hx72
     obtain ⟨u76, F77, r78, su79, kx80, ku81⟩ := itm_tup (n := 1) (atS at1) r74
     obtain ⟨rfl, rfl⟩ := r78
     obtain ⟨x82, hx82, hm⟩ := Mi.bnd hm
     obtain ⟨u83, r84, ku85⟩ := itm_L r1 hx82
     obtain ⟨u86, F87, r88, su89, kx90, ku91⟩ := itm_tup (n := 0) at0 r84
     obtain ⟨rfl, rfl⟩ := r88
     obtain ⟨u92, F93, r94, su95, kx96, ku97⟩ := itm_tup (n := 3) (atS (atS (atS at0))) r0
     obtain ⟨rfl, rfl⟩ := r94
     refine w_args (va_cons (val_var rfl) (va_cons (val_sub (val_sub (val_add (itm_LI r2 hx71 (val_var rfl) (val_var rfl)) (ku81 (ku75 (val_var rfl) (val_var rfl)) val_c)) (ku91 (ku85 (val_var rfl) (val_var rfl)) val_c)) (ku97 (val_var rfl) val_c)) va_nil)) ?_
     refine e_tup (K := K) (ty := (sCons yInt (sOne yInt))) (F := []) (d := (i11, (((x71 + x72.2) - x82.1) - d0.2.2.2.1))) (by exact Nat.le_of_ble_eq_true rfl) ⟨_, _, _, _, rfl, rfl, yInt_i, ⟨_, rfl, yInt_i⟩⟩ fun p98 H102 np101 c99 r100  => ?_
     have r0 := Ty.ex r0 c99
     have r1 := Ty.ex r1 c99
     have r2 := Ty.ex r2 c99
     have c0 := c0.trans c99.none
     obtain rfl := Option.some.inj hm
     exact hQ _ _ c0 r100 
   replace hm := Mi.ifF hb hm
   refine w_fall ?_
   obtain ⟨u103, F104, r105, su106, kx107, ku108⟩ := itm_tup (n := 0) at0 r0
   obtain ⟨rfl, rfl⟩ := r105
   refine q_if (ans_t (val_eqS (ku108 (val_var rfl) val_c) (val_cS (a := ([98, 121] : List Nat)) (by decide +kernel)))) (fun hb => ?_) (fun hb => ?_)
   ·
     replace hm := Mi.ifT hb hm
     refine q_ret ?_
     refine w_tup ?_
     refine w_cons ?_
     refine c_val (val_var rfl) ?_
     refine w_cons ?_
     refine w_op ?_
     refine w_lst ?_
     refine w_args (va_cons val_c (va_cons (val_add (val_var rfl) val_c) va_nil)) ?_
     refine e_lst (K := K) (τ := yInt) (by exact Nat.le_of_ble_eq_true rfl) (.cons yInt_i (.cons yInt_i .nil)) fun p109 H113 np112 c110 r111 => ?_
     have d114 : Dj F0 [p109] := Ty.nin r0 np112
     have d115 : Dj F1 [p109] := Ty.nin r1 np112
     have d116 : Dj F2 [p109] := Ty.nin r2 np112
     have n117 : ∀ a ∈ [p109], H0 a = none := one_fresh (c0.dom p109 np112)
     have r0 := Ty.ex r0 c110
     have r1 := Ty.ex r1 c110
     have r2 := Ty.ex r2 c110
     have c0 := c0.trans c110.none
     obtain ⟨x118, hx118, hm⟩ := Mi.bnd hm
     obtain ⟨x119, hx119, hm⟩ := Mi.bnd hm
     obtain ⟨u120, r121, ku122⟩ := itm_L r1 hx119
     obtain ⟨u123, F124, r125, su126, kx127, ku128⟩ := itm_tup (n := 1) (atS at1) r121
     obtain ⟨rfl, rfl⟩ := r125
     obtain ⟨u129, F130, r131, su132, kx133, ku134⟩ := itm_tup (n := 3) (atS (atS (atS at0))) r0
     obtain ⟨rfl, rfl⟩ := r131
     refine c_val (val_intB (val_gt (val_add (itm_LI r2 hx118 (val_var rfl) (val_var rfl)) (ku128 (ku122 (val_var rfl) (val_var rfl)) val_c)) (ku134 (val_var rfl) val_c))) ?_
     obtain ⟨x135, hx135, hm⟩ := Mi.bnd hm
     refine w_ixL r111 hx135 fun u136 r137 => ?_
     obtain ⟨_, rfl⟩ := r137
     refine w_nil ?_
     refine e_tup (K := K) (ty := (sCons yInt (sOne yInt))) (F := []) (d := (i11, x135)) (by exact Nat.le_of_ble_eq_true rfl) ⟨_, _, _, _, rfl, rfl, yInt_i, ⟨_, rfl, yInt_i⟩⟩ fun p138 H142 np141 c139 r140  => ?_
     have r0 := Ty.ex r0 c139
     have r1 := Ty.ex r1 c139
     have r2 := Ty.ex r2 c139
     have c0 := c0.trans c139.none
     obtain rfl := Option.some.inj hm
     exact hQ _ _ c0 r140 
   replace hm := Mi.ifF hb hm
   refine w_fall ?_
   obtain ⟨u143, F144, r145, su146, kx147, ku148⟩ := itm_tup (n := 0) at0 r0
   obtain ⟨rfl, rfl⟩ := r145
   refine q_if (ans_t (val_eqS (ku148 (val_var rfl) val_c) (val_cS (a := ([102, 114, 111, 109] : List Nat)) (by decide +kernel)))) (fun hb => ?_) (fun hb => ?_)
   ·
     replace hm := Mi.ifT hb hm
     refine q_ret ?_
     refine w_tup ?_
     obtain ⟨u149, F150, r151, su152, kx153, ku154⟩ := itm_tup (n := 3) (atS (atS (atS at0))) r0
     obtain ⟨rfl, rfl⟩ := r151
     refine w_args (va_cons (val_var rfl) (va_cons (ku154 (val_var rfl) val_c) va_nil)) ?_
     refine e_tup (K := K) (ty := (sCons yInt (sOne yInt))) (F := []) (d := (i11, d0.2.2.2.1)) (by exact Nat.le_of_ble_eq_true rfl) ⟨_, _, _, _, rfl, rfl, yInt_i, ⟨_, rfl, yInt_i⟩⟩ fun p155 H159 np158 c156 r157  => ?_
     have r0 := Ty.ex r0 c156
     have r1 := Ty.ex r1 c156
     have r2 := Ty.ex r2 c156
     have c0 := c0.trans c156.none
     obtain rfl := Option.some.inj hm
     exact hQ _ _ c0 r157 
   replace hm := Mi.ifF hb hm
   refine w_fall ?_
   obtain ⟨low160, hlow160, hm⟩ := Mi.letE hm
   refine q_setE val_c (congrArg V.int hlow160) (σ' := [some v0, some v1, some v2, some (.int d3), some (.int i11), some (.int j18), some (.int low160), none, none]) rfl ?_
   obtain ⟨high161, hhigh161, hm⟩ := Mi.letE hm
   refine q_setE val_c (congrArg V.int hhigh161) (σ' := [some v0, some v1, some v2, some (.int d3), some (.int i11), some (.int j18), some (.int low160), some (.int high161), none]) rfl ?_
   obtain ⟨s162, hs162, hm⟩ := Mi.bnd hm
   refine s_join (R := fun σ' H' => σ' = [some v0, some v1, some v2, some (.int d3), some (.int i11), some (.int j18), some (.int s162.1), some (.int s162.2), none] ∧ Chg ([] : List Addr) H0 H' ∧ (yTup (sCons yStr (sCons yInt (sCons yInt (sCons yInt (sOne (yLst yInt))))))).rep K H' F0 v0 d0 ∧ (yLst (yTup (sCons yInt (sOne yInt)))).rep K H' F1 v1 d1 ∧ (yLst yInt).rep K H' F2 v2 d2) (fun nx kx => ?_) (fun σ' H' hj => ?_)
   ·
     obtain ⟨u163, F164, r165, su166, kx167, ku168⟩ := itm_tup (n := 0) at0 r0
     obtain ⟨rfl, rfl⟩ := r165
     refine s_if (ans_t (val_eqS (ku168 (val_var rfl) val_c) (val_cS (a := ([98, 97, 114] : List Nat)) (by decide +kernel)))) (fun hb => ?_) (fun hb => ?_)
     ·
       replace hs162 := Mi.ifT hb hs162
       obtain ⟨x169, hx169, hs162⟩ := Mi.bnd hs162
       obtain ⟨u170, r171, ku172⟩ := itm_L r1 hx169
       obtain ⟨u173, F174, r175, su176, kx177, ku178⟩ := itm_tup (n := 0) at0 r171
       obtain ⟨rfl, rfl⟩ := r175
       obtain ⟨low179, hlow179, hs162⟩ := Mi.letE hs162
       refine q_setE (ku178 (ku172 (val_var rfl) (val_var rfl)) val_c) (congrArg V.int hlow179) (σ' := [some v0, some v1, some v2, some (.int d3), some (.int i11), some (.int j18), some (.int low179), some (.int high161), none]) rfl ?_
       obtain ⟨x180, hx180, hs162⟩ := Mi.bnd hs162
       obtain ⟨u181, r182, ku183⟩ := itm_L r1 hx180
       obtain ⟨u184, F185, r186, su187, kx188, ku189⟩ := itm_tup (n := 1) (atS at1) r182
       obtain ⟨rfl, rfl⟩ := r186
       obtain ⟨high190, hhigh190, hs162⟩ := Mi.letE hs162
       refine q_setE (ku189 (ku183 (val_var rfl) (val_var rfl)) val_c) (congrArg V.int hhigh190) (σ' := [some v0, some v1, some v2, some (.int d3), some (.int i11), some (.int j18), some (.int low179), some (.int high190), none]) rfl ?_
       refine w_nextJ ?_
       obtain rfl := Option.some.inj hs162
       exact kx _ _ ⟨rfl, c0, r0, r1, r2⟩
     ·
       replace hs162 := Mi.ifF hb hs162
       refine w_nextJ ?_
       obtain rfl := Option.some.inj hs162
       exact kx _ _ ⟨rfl, c0, r0, r1, r2⟩
   obtain ⟨rfl, c0, r0, r1, r2⟩ := hj
   refine q_for ?_
   refine w_iRng2 ?_
   obtain ⟨x191, hx191, hm⟩ := Mi.bnd hm
   refine w_args (va_cons (itm_LI r2 hx191 (val_var rfl) (val_var rfl)) (va_cons val_c va_nil)) ?_
   obtain ⟨g192, hg192, hm⟩ := Mi.bnd hm
   obtain ⟨e193, he193, hm⟩ := Mi.bnd hm
   refine l_rng2 hg192 (fun i σ' H' => ∃ (s194 : Unit) (y195 : Option V), σ' = [some v0, some v1, some v2, some (.int d3), some (.int i11), some (.int j18), some (.int s162.1), some (.int s162.2), y195] ∧ Chg ([] : List Addr) H0 H' ∧ (yTup (sCons yStr (sCons yInt (sCons yInt (sCons yInt (sOne (yLst yInt))))))).rep K H' F0 v0 d0 ∧ (yLst (yTup (sCons yInt (sOne yInt)))).rep K H' F1 v1 d1 ∧ (yLst yInt).rep K H' F2 v2 d2 ∧ Mi.forR (Mi.m_l_asks_b1 d0 i11 s162) s194 (List.drop i g192) = some e193) ⟨(), none, rfl, c0, r0, r1, r2, he193⟩ (fun i198 x197 σ' H' hx196 hp => ?_) (fun σ' H' hp => ?_)
   ·
     obtain ⟨s194, y195, rfl, c0, r0, r1, r2, hle193⟩ := hp
     obtain ⟨o199, hbe193, hore193⟩ := Mi.forR_go hle193 hx196
     unfold Mi.m_l_asks_b1 at hbe193
     refine g_name (σ' := [some v0, some v1, some v2, some (.int d3), some (.int i11), some (.int j18), some (.int s162.1), some (.int s162.2), some (.int x197)]) rfl ?_
     refine q_ifS ?_
     refine w_B ?_
     refine w_call ?_
     obtain ⟨u200, F201, r202, su203, kx204, ku205⟩ := itm_tup (n := 4) (atS (atS (atS (atS at1)))) r0
     refine w_args (va_cons (ku205 (val_var rfl) val_c) (va_cons (val_var rfl) (va_cons (val_var rfl) (va_cons (val_var rfl) va_nil)))) ?_
     obtain ⟨q206, hq206, hbe193⟩ := Mi.bnd hbe193
     refine ⟨u200, F201, d0.2.2.2.2, x197, s162.1, s162.2, q206, rfl, r202, hq206, fun H208 c207  => ?_⟩
     have r0 := Ty.ex r0 c207
     have r1 := Ty.ex r1 c207
     have r2 := Ty.ex r2 c207
     have c0 := c0.trans c207.none
     refine ⟨_, rfl, ?_⟩
     refine c_if (fun hb => ?_) (fun hb => ?_)
     ·
       replace hbe193 := Mi.ifT hb hbe193
       refine q_ret ?_
       refine w_tup ?_
       refine w_args (va_cons (val_var rfl) (va_cons (val_var rfl) va_nil)) ?_
       refine e_tup (K := K) (ty := (sCons yInt (sOne yInt))) (F := []) (d := (i11, x197)) (by exact Nat.le_of_ble_eq_true rfl) ⟨_, _, _, _, rfl, rfl, yInt_i, ⟨_, rfl, yInt_i⟩⟩ fun p209 H213 np212 c210 r211  => ?_
       have r0 := Ty.ex r0 c210
       have r1 := Ty.ex r1 c210
       have r2 := Ty.ex r2 c210
       have c0 := c0.trans c210.none
       obtain rfl := Option.some.inj hbe193
       obtain rfl := Mi.or_inl hore193
       obtain rfl := Option.some.inj (Mi.orR_inl hm)
       exact hQ _ _ c0 r211 
     replace hbe193 := Mi.ifF hb hbe193
     refine w_fall ?_
     refine w_nextJ ?_
     obtain rfl := Option.some.inj hbe193
     replace hore193 := Mi.or_inr hore193
     exact ⟨_, (some (.int x197)), rfl, c0, r0, r1, r2, hore193⟩
   obtain ⟨s194, y195, rfl, c0, r0, r1, r2, hle193⟩ := hp
   obtain rfl := Mi.forR_end hle193
   replace hm := Mi.orR_inr hm
   refine q_ret ?_
   refine w_tup ?_
   refine w_args (va_cons (val_var rfl) (va_cons (val_add (val_var rfl) val_c) va_nil)) ?_
   refine e_tup (K := K) (ty := (sCons yInt (sOne yInt))) (F := []) (d := (i11, (d3 + (1 : Int)))) (by exact Nat.le_of_ble_eq_true rfl) ⟨_, _, _, _, rfl, rfl, yInt_i, ⟨_, rfl, yInt_i⟩⟩ fun p214 H218 np217 c215 r216  => ?_
   have r0 := Ty.ex r0 c215
   have r1 := Ty.ex r1 c215
   have r2 := Ty.ex r2 c215
   have c0 := c0.trans c215.none
   obtain rfl := Option.some.inj hm
   exact hQ _ _ c0 r216 
abbrev s_l_walk : Stmt := topS 59
abbrev N_l_walk : List Str := ["_law_plains_here", "_law_sailings_here", "_law_lifts", "_law_last", "_law_hours", "_law_lift", "_law_span", "_law_x"]
theorem sc_l_walk : FnScope ["_law_plains_here", "_law_sailings_here", "_law_lifts", "_law_last", "_law_hours", "_law_lift", "_law_span", "_law_x"] ["_law_plains_here", "_law_sailings_here", "_law_lifts", "_law_last"] (defScope s_l_walk) := ⟨rfl, rfl, rfl, by decide +kernel, rfl, by decide +kernel, by decide +kernel⟩
def sp_l_walk (K : PySem.W.Frag) : Sp := fun vs H Q _ => ∃ (v0 : V) (F0 : List Addr) (d0 : (List ((List Nat) × Int × Int × Int × (List Int)))) (v1 : V) (F1 : List Addr) (d1 : (List (Int × Int))) (v2 : V) (F2 : List Addr) (d2 : (List (Int × Int × Int))) (d3 : Int) (r : (Option (List Int))), vs = [v0, v1, v2, (.int d3)] ∧ (yLsg (yTup (sCons yStr (sCons yInt (sCons yInt (sCons yInt (sOne (yLst yInt)))))))).rep K H F0 v0 d0 ∧ (yLst (yTup (sCons yInt (sOne yInt)))).rep K H F1 v1 d1 ∧ (yLst (yTup (sCons yInt (sCons yInt (sOne yInt))))).rep K H F2 v2 d2 ∧ Mi.m_l_walk d0 d1 d2 d3 = some r ∧ ∀ v H' F, Chg ([]) H H' → (yOpt (yLst yInt)).rep K H' F v r → (∀ a ∈ F, H a = none) → Q v H'
theorem ok_l_walk (B : Bi mg) (CN : Cs K mg) (D : Dfn K mg "_law_walk" s_l_walk) (C_l_int : Cal P w K mg "_law_int" ["_law_x"] 1 (sp_l_int K)) (C_l_asks : Cal P w K mg "_law_asks" ["_law_plain_here", "_law_sailings_here", "_law_hours", "_law_last"] 2 (sp_l_asks K)) : Cal P w K mg "_law_walk" ["_law_plains_here", "_law_sailings_here", "_law_lifts", "_law_last"] 3 (sp_l_walk K) := by
 obtain ⟨f, fd, F, g⟩ := D.ex
 refine ⟨f, fd, g, F.kp, bindsF F (fun _ _ _ _ _ _ us hl => match us, hl with | [_, _, _, _], _ => rfl), fun base => F.ok sc_l_walk (fun vs H Q E h => ?_) (fun cdv A outer s H0 vs Q E hr h => ?_)⟩
 · obtain ⟨v0, F0, d0, v1, F1, d1, v2, F2, d2, d3, r, rfl, r0, r1, r2, hm, hQ⟩ := h; rfl
 ·
   obtain ⟨v0, F0, d0, v1, F1, d1, v2, F2, d2, d3, r, rfl, r0, r1, r2, hm, hQ⟩ := h
   refine ⟨_, pss_cons (ps_setLc (i := 4) (own := [("_law_span", 6)]) rfl sc_l_walk.nd rfl rfl (sw_true rfl rfl rfl (by decide +kernel)) (pi_list (pv 1)) (blkOk_by (own := [("_law_span", 6)]) (N := N_l_walk) (sc := defScope s_l_walk) (by decide +kernel)) (fun _ _ _ _ _ => (pg_name (i := 6) sc_l_walk.nd rfl (.inl rfl))) (fun _ _ _ _ _ => pts_nil) (fun _ _ _ _ _ => pe_int))
     (pss_cons (ps_for PassesOwn.never rfl (pi_list (pv 2)) (pg_name (i := 5) sc_l_walk.nd rfl (.inl rfl)) (pss_cons (ps_if (PW.pt (pw_or (pt_not (pt_val (pe_callB (cl_isi (K := K)) (by rfl) B.isinstance (by decide +kernel) (pa_cons (pv 5) (pa_cons (pe_bltn (v := .ty "tuple") (by rfl) B.tuple (by decide +kernel) rfl) pa_nil))))) (pw_or (pt_cmpR op_ne (pe_callB (cl_len (K := K)) (by rfl) B.len PySem.boot_len (pa_cons (pv 5) pa_nil)) pe_int (nomark _)) (pw_or1 (pt_cmpR op_gt (pe_callB (cl_len (K := K)) (by rfl) B.len PySem.boot_len (pa_cons (pe_lc (own := [("_law_x", 7)]) rfl sc_l_walk.nd (pi_tup (pv 5)) (blkOk_by (own := [("_law_x", 7)]) (N := N_l_walk) (sc := defScope s_l_walk) (by decide +kernel)) (fun _ _ _ _ _ => (pg_name (i := 7) sc_l_walk.nd rfl (.inl rfl))) (fun _ _ _ _ _ => (pts_one (pt_not (pt_val (pe_cc C_l_int hr (pa_cons (pv 7) pa_nil)))))) (fun _ _ _ _ _ => (pv 7))) pa_nil)) pe_int (nomark _)))))) (pss_cons (ps_ret pe_non) pss_nil) (pss_nil))
     (pss_cons (ps_if (PW.pt (pw_or (pt_cmpR op_lt (pe_ix (ix_t (K := K)) (pv 5) pe_int (fun _ _ => rfl)) pe_int (nomark _)) (pw_or (pt_cmpR op_ge (pe_ix (ix_t (K := K)) (pv 5) pe_int (fun _ _ => rfl)) (pe_callB (cl_len (K := K)) (by rfl) B.len PySem.boot_len (pa_cons (pv 0) pa_nil)) (nomark _)) (pw_or1 (pt_cmpR op_gt (pe_callB (cl_maxL (K := K) rfl) (by rfl) B.max (by decide +kernel) (pa_cons (pv 4) pa_nil)) (pv 3) (nomark _)))))) (pss_cons (ps_ret pe_non) pss_nil) (pss_nil))
     (pss_cons (ps_if (pt_cmpR (op_ne_d hr.units) (pe_cc C_l_asks hr (pa_cons (pe_ix (ix_l (K := K)) (pv 0) (pe_ix (ix_t (K := K)) (pv 5) pe_int (fun _ _ => rfl)) (fun _ _ => rfl)) (pa_cons (pv 1) (pa_cons (pv 4) (pa_cons (pv 3) pa_nil))))) (pe_tup (pa_cons (pe_ix (ix_t (K := K)) (pv 5) pe_int (fun _ _ => rfl)) (pa_cons (pe_ix (ix_t (K := K)) (pv 5) pe_int (fun _ _ => rfl)) pa_nil))) (nomark _)) (pss_cons (ps_ret pe_non) pss_nil) (pss_nil))
     (pss_cons (ps_if (pt_cmpR op_le (pe_ix (ix_t (K := K)) (pv 5) pe_int (fun _ _ => rfl)) (pe_ix (ix_l (K := K)) (pv 4) (pe_ix (ix_t (K := K)) (pv 5) pe_int (fun _ _ => rfl)) (fun _ _ => rfl)) (nomark _)) (pss_cons (ps_ret pe_non) pss_nil) (pss_nil))
     (pss_cons (ps_asg (pe_ix (ix_t (K := K)) (pv 5) pe_int (fun _ _ => rfl)) (pg_sub (pv 4) (pe_ix (ix_t (K := K)) (pv 5) pe_int (fun _ _ => rfl)) set_list))
     (pss_nil)))))))
     (pss_cons (ps_ret (pv 4)) pss_nil)), ?_⟩
   have c0 : Chg ([] : List Addr) H0 H0 := Chg.refl H0
   unfold Mi.m_l_walk at hm
   refine q_asg ?_
   refine w_lc ?_
   refine w_iList ?_
   refine c_val (val_var rfl) ?_
   obtain ⟨e5, he5, hm⟩ := Mi.bnd hm
   refine kc_lst (K := K) (τ := yInt) r1 (fun D7 i H' => ∃ (s6 : (List Int)), Chg ([] : List Addr) H0 H' ∧ (yLsg (yTup (sCons yStr (sCons yInt (sCons yInt (sCons yInt (sOne (yLst yInt)))))))).rep K H' F0 v0 d0 ∧ (yLst (yTup (sCons yInt (sOne yInt)))).rep K H' F1 v1 d1 ∧ (yLst (yTup (sCons yInt (sCons yInt (sOne yInt))))).rep K H' F2 v2 d2 ∧ (yLst yInt).rep K H' [D7] (.ref D7) s6 ∧ Dj F0 [D7] ∧ Dj F1 [D7] ∧ Dj F2 [D7] ∧ (∀ a ∈ [D7], H0 a = none) ∧ Mi.forN (Mi.m_l_walk_b1) s6 (List.drop i d1) = some e5) (fun D7 H16 np15 c14 r8 => ⟨([] : (List Int)), c0.trans c14.none, (Ty.ex r0 c14), (Ty.ex r1 c14), (Ty.ex r2 c14), r8, Ty.nin r0 np15, Ty.nin r1 np15, Ty.nin r2 np15, one_fresh (c0.dom D7 np15), he5⟩) (fun D7 i H' hp => by obtain ⟨s6, c0, r0, r1, r2, r8, d9, d10, d11, n13, _⟩ := hp; exact r1) (fun D7 i19 x18 u21 H20 hx17 r22 hp => ?_) (fun D7 H' np15 hp => ?_)
   ·
     obtain ⟨s6, c0, r0, r1, r2, r8, d9, d10, d11, n13, hle5⟩ := hp
     obtain ⟨_, hbe5, hle5⟩ := Mi.forN_go hle5 hx17
     unfold Mi.m_l_walk_b1 at hbe5
     refine g_name (σ' := [some v0, some v1, some v2, some (.int d3), none, none, some u21, none]) rfl ?_
     refine ⟨rfl, ?_⟩
     refine w_yes ?_
     refine iteT ?_
     refine c_val val_c ?_
     obtain ⟨x27, hx27, hbe5⟩ := Mi.bnd hbe5
     refine e_app r8 yInt_i hx27 fun H29 c28 r8 => ?_
     have r0 := Ty.chg r0 c28 d9
     have r1 := Ty.chg r1 c28 d10
     have r2 := Ty.chg r2 c28 d11
     have r22 := Ty.fz r22 c28
     have c0 := c0.join c28 (fun a h => .inr (n13 a h))
     obtain rfl := Option.some.inj hbe5
     exact ⟨x27, c0, r0, r1, r2, r8, d9, d10, d11, n13, hle5⟩
   obtain ⟨s6, c0, r0, r1, r2, r8, d9, d10, d11, n13, hle5⟩ := hp
   obtain rfl := Mi.forN_end hle5
   refine g_name (σ' := [some v0, some v1, some v2, some (.int d3), some (.ref D7), none, none, none]) rfl ?_
   refine q_for ?_
   refine w_iList ?_
   refine c_val (val_var rfl) ?_
   obtain ⟨e30, he30, hm⟩ := Mi.bnd hm
   refine l_lst r2 (fun i σ' H' => ∃ (s31 : (List Int)) (y32 : Option V), σ' = [some v0, some v1, some v2, some (.int d3), some (.ref D7), y32, none, none] ∧ Chg ([] : List Addr) H0 H' ∧ (yLsg (yTup (sCons yStr (sCons yInt (sCons yInt (sCons yInt (sOne (yLst yInt)))))))).rep K H' F0 v0 d0 ∧ (yLst (yTup (sCons yInt (sOne yInt)))).rep K H' F1 v1 d1 ∧ (yLst (yTup (sCons yInt (sCons yInt (sOne yInt))))).rep K H' F2 v2 d2 ∧ (yLst yInt).rep K H' [D7] (.ref D7) s31 ∧ Mi.forR (Mi.m_l_walk_b2 d0 d1 d3) s31 (List.drop i d2) = some e30) ⟨s6, none, rfl, c0, r0, r1, r2, r8, he30⟩ (fun i σ' H' hp => by obtain ⟨s31, y32, rfl, c0, r0, r1, r2, r8, _⟩ := hp; exact r2) (fun i35 x34 u36 σ' H' hx33 r37 hp => ?_) (fun σ' H' hp => ?_)
   ·
     obtain ⟨s31, y32, rfl, c0, r0, r1, r2, r8, hle30⟩ := hp
     obtain ⟨o38, hbe30, hore30⟩ := Mi.forR_go hle30 hx33
     unfold Mi.m_l_walk_b2 at hbe30
     refine g_name (σ' := [some v0, some v1, some v2, some (.int d3), some (.ref D7), some u36, none, none]) rfl ?_
     refine q_ifS ?_
     obtain ⟨b39, hb39, hbe30⟩ := Mi.bnd hbe30
     refine j_tt b39 (R := fun H' => Chg ([] : List Addr) H0 H' ∧ (yLsg (yTup (sCons yStr (sCons yInt (sCons yInt (sCons yInt (sOne (yLst yInt)))))))).rep K H' F0 v0 d0 ∧ (yLst (yTup (sCons yInt (sOne yInt)))).rep K H' F1 v1 d1 ∧ (yLst (yTup (sCons yInt (sCons yInt (sOne yInt))))).rep K H' F2 v2 d2 ∧ (yLst yInt).rep K H' [D7] (.ref D7) s31 ∧ (yTup (sCons yInt (sCons yInt (sOne yInt)))).rep K H' [] u36 x34) (fun Q' kq => ?_) (fun H' hj => ?_)
     ·
       refine w_or ?_
       refine c_ans (ans_N (ans_B (val_isi (val_var rfl) (ty_tup r37) (n := "tuple") (m := "tuple") (b := true) (by decide +kernel)))) ?_
       refine c_if (fun hb => ?_) (fun hb => ?_)
       ·
         replace hb39 := Mi.ifT hb hb39
         obtain rfl := Option.some.inj hb39
         exact kq _ ⟨c0, r0, r1, r2, r8, r37⟩
       replace hb39 := Mi.ifF hb hb39
       refine w_or ?_
       refine c_ans (ans_t (val_neI (val_lenU (n := 3) (lens_cons (lens_cons lens_one)) r37 (val_var rfl)) val_c)) ?_
       refine c_if (fun hb => ?_) (fun hb => ?_)
       ·
         replace hb39 := Mi.ifT hb hb39
         obtain rfl := Option.some.inj hb39
         exact kq _ ⟨c0, r0, r1, r2, r8, r37⟩
       replace hb39 := Mi.ifF hb hb39
       refine w_test ?_
       refine w_op ?_
       refine w_cb ?_
       refine w_cons ?_
       refine w_lc ?_
       refine w_iTup ?_
       refine c_val (val_var rfl) ?_
       have r40 := tupT3 r37
       obtain ⟨e41, he41, hb39⟩ := Mi.bnd hb39
       refine kc_tup (K := K) (τ := yInt) r40 (fun D43 i H' => ∃ (s42 : (List Int)), Chg ([] : List Addr) H0 H' ∧ (yLsg (yTup (sCons yStr (sCons yInt (sCons yInt (sCons yInt (sOne (yLst yInt)))))))).rep K H' F0 v0 d0 ∧ (yLst (yTup (sCons yInt (sOne yInt)))).rep K H' F1 v1 d1 ∧ (yLst (yTup (sCons yInt (sCons yInt (sOne yInt))))).rep K H' F2 v2 d2 ∧ (yLst yInt).rep K H' [D7] (.ref D7) s31 ∧ (yTup (sCons yInt (sCons yInt (sOne yInt)))).rep K H' [] u36 x34 ∧ (yTupL yInt).rep K H' [] u36 [x34.1, x34.2.1, x34.2.2] ∧ (yLst yInt).rep K H' [D43] (.ref D43) s42 ∧ Dj F0 [D43] ∧ Dj F1 [D43] ∧ Dj F2 [D43] ∧ Dj [D7] [D43] ∧ (∀ a ∈ [D43], H0 a = none) ∧ Mi.forN (Mi.m_l_walk_b3) s42 (List.drop i [x34.1, x34.2.1, x34.2.2]) = some e41) (fun D43 H53 np52 c51 r44 => ⟨([] : (List Int)), c0.trans c51.none, (Ty.ex r0 c51), (Ty.ex r1 c51), (Ty.ex r2 c51), (Ty.ex r8 c51), (Ty.fz r37 c51), (Ty.fz r40 c51), r44, Ty.nin r0 np52, Ty.nin r1 np52, Ty.nin r2 np52, Ty.nin r8 np52, one_fresh (c0.dom D43 np52), he41⟩) (fun D43 i H' hp => by obtain ⟨s42, c0, r0, r1, r2, r8, r37, r40, r44, d45, d46, d47, d48, n50, _⟩ := hp; exact r40) (fun D43 i56 x55 u58 H57 hx54 r59 hp => ?_) (fun D43 H' np52 hp => ?_)
       ·
         obtain ⟨s42, c0, r0, r1, r2, r8, r37, r40, r44, d45, d46, d47, d48, n50, hle41⟩ := hp
         obtain ⟨_, hbe41, hle41⟩ := Mi.forN_go hle41 hx54
         unfold Mi.m_l_walk_b3 at hbe41
         obtain ⟨_, rfl⟩ := r59
         refine g_name (σ' := [some v0, some v1, some v2, some (.int d3), some (.ref D7), some u36, none, some (.int x55)]) rfl ?_
         refine ⟨rfl, ?_⟩
         refine w_not ?_
         refine w_B ?_
         refine w_call ?_
         refine w_args (va_cons (val_var rfl) va_nil) ?_
         obtain ⟨q64, hq64, hbe41⟩ := Mi.bnd hbe41
         refine Or.inl ⟨x55, q64, rfl, hq64, fun H66 c65  => ?_⟩
         have r0 := Ty.ex r0 c65
         have r1 := Ty.ex r1 c65
         have r2 := Ty.ex r2 c65
         have r8 := Ty.ex r8 c65
         have r37 := Ty.fz r37 c65
         have r40 := Ty.fz r40 c65
         have r44 := Ty.ex r44 c65
         have c0 := c0.trans c65.none
         refine ⟨_, rfl, ?_⟩
         refine c_if (fun hb => ?_) (fun hb => ?_)
         ·
           replace hbe41 := Mi.ifT hb hbe41
           refine c_val (val_var rfl) ?_
           obtain ⟨x67, hx67, hbe41⟩ := Mi.bnd hbe41
           refine e_app r44 yInt_i hx67 fun H69 c68 r44 => ?_
           have r0 := Ty.chg r0 c68 d45
           have r1 := Ty.chg r1 c68 d46
           have r2 := Ty.chg r2 c68 d47
           have r8 := Ty.chg r8 c68 d48
           have r37 := Ty.fz r37 c68
           have r40 := Ty.fz r40 c68
           have c0 := c0.join c68 (fun a h => .inr (n50 a h))
           obtain rfl := Option.some.inj hbe41
           exact ⟨x67, c0, r0, r1, r2, r8, r37, r40, r44, d45, d46, d47, d48, n50, hle41⟩
         ·
           replace hbe41 := Mi.ifF hb hbe41
           obtain rfl := Option.some.inj hbe41
           exact ⟨s42, c0, r0, r1, r2, r8, r37, r40, r44, d45, d46, d47, d48, n50, hle41⟩
       obtain ⟨s42, c0, r0, r1, r2, r8, r37, r40, r44, d45, d46, d47, d48, n50, hle41⟩ := hp
       obtain rfl := Mi.forN_end hle41
       refine w_nil ?_
       refine w_lenL r44 ?_
       refine c_val val_c ?_
       refine w_I0 ?_
       refine ⟨_, rfl, ?_⟩
       obtain rfl := Option.some.inj hb39
       exact kq _ ⟨c0, r0, r1, r2, r8, r37⟩
     obtain ⟨c0, r0, r1, r2, r8, r37⟩ := hj
     refine c_if (fun hb => ?_) (fun hb => ?_)
     ·
       replace hbe30 := Mi.ifT hb hbe30
       refine q_ret ?_
       refine c_val val_c ?_
       obtain rfl := Option.some.inj hbe30
       obtain rfl := Mi.or_inl hore30
       obtain rfl := Option.some.inj (Mi.orR_inl hm)
       exact hQ _ _ _ c0 opt_n nil_fresh 
     replace hbe30 := Mi.ifF hb hbe30
     refine w_fall ?_
     refine q_ifS ?_
     obtain ⟨b70, hb70, hbe30⟩ := Mi.bnd hbe30
     refine j_tt b70 (R := fun H' => Chg ([] : List Addr) H0 H' ∧ (yLsg (yTup (sCons yStr (sCons yInt (sCons yInt (sCons yInt (sOne (yLst yInt)))))))).rep K H' F0 v0 d0 ∧ (yLst (yTup (sCons yInt (sOne yInt)))).rep K H' F1 v1 d1 ∧ (yLst (yTup (sCons yInt (sCons yInt (sOne yInt))))).rep K H' F2 v2 d2 ∧ (yLst yInt).rep K H' [D7] (.ref D7) s31 ∧ (yTup (sCons yInt (sCons yInt (sOne yInt)))).rep K H' [] u36 x34) (fun Q' kq => ?_) (fun H' hj => ?_)
     ·
       refine w_or ?_
       obtain ⟨u71, F72, r73, su74, kx75, ku76⟩ := itm_tup (n := 2) (atS (atS at1)) r37
       obtain ⟨rfl, rfl⟩ := r73
       refine c_ans (ans_t (val_lt (ku76 (val_var rfl) val_c) val_c)) ?_
       refine c_if (fun hb => ?_) (fun hb => ?_)
       ·
         replace hb70 := Mi.ifT hb hb70
         obtain rfl := Option.some.inj hb70
         exact kq _ ⟨c0, r0, r1, r2, r8, r37⟩
       replace hb70 := Mi.ifF hb hb70
       refine w_or ?_
       obtain ⟨u77, F78, r79, su80, kx81, ku82⟩ := itm_tup (n := 2) (atS (atS at1)) r37
       obtain ⟨rfl, rfl⟩ := r79
       refine c_ans (ans_t (val_ge (ku82 (val_var rfl) val_c) (val_lenG r0 (val_var rfl)))) ?_
       refine c_if (fun hb => ?_) (fun hb => ?_)
       ·
         replace hb70 := Mi.ifT hb hb70
         obtain rfl := Option.some.inj hb70
         exact kq _ ⟨c0, r0, r1, r2, r8, r37⟩
       replace hb70 := Mi.ifF hb hb70
       refine w_test ?_
       refine w_op ?_
       refine w_cb ?_
       refine w_args (va_cons (val_var rfl) va_nil) ?_
       obtain ⟨x83, hx83, hb70⟩ := Mi.bnd hb70
       refine w_maxL r8 hx83 ?_
       refine c_val (val_var rfl) ?_
       refine w_I0 ?_
       refine ⟨_, rfl, ?_⟩
       obtain rfl := Option.some.inj hb70
       exact kq _ ⟨c0, r0, r1, r2, r8, r37⟩
     obtain ⟨c0, r0, r1, r2, r8, r37⟩ := hj
     refine c_if (fun hb => ?_) (fun hb => ?_)
     ·
       replace hbe30 := Mi.ifT hb hbe30
       refine q_ret ?_
       refine c_val val_c ?_
       obtain rfl := Option.some.inj hbe30
       obtain rfl := Mi.or_inl hore30
       obtain rfl := Option.some.inj (Mi.orR_inl hm)
       exact hQ _ _ _ c0 opt_n nil_fresh 
     replace hbe30 := Mi.ifF hb hbe30
     refine w_fall ?_
     refine q_ifS ?_
     refine w_test ?_
     refine w_op ?_
     refine w_call ?_
     obtain ⟨u84, F85, r86, su87, kx88, ku89⟩ := itm_tup (n := 2) (atS (atS at1)) r37
     obtain ⟨rfl, rfl⟩ := r86
     obtain ⟨x90, hx90, hbe30⟩ := Mi.bnd hbe30
     obtain ⟨u91, F92, r93, su94, ap95, kx96, ku97⟩ := itm_G r0 hx90
     have d98 : Dj F92 [D7] := Dj.sub (d9) su94
     refine w_args (va_cons (ku97 (val_var rfl) (ku89 (val_var rfl) val_c)) (va_cons (val_var rfl) (va_cons (val_var rfl) (va_cons (val_var rfl) va_nil)))) ?_
     obtain ⟨q99, hq99, hbe30⟩ := Mi.bnd hbe30
     refine ⟨u91, F92, x90, v1, F1, d1, (.ref D7), [D7], s31, d3, q99, rfl, r93, r1, r8, hq99, fun v102 H101 c100 r103  => ?_⟩
     have r0 := Ty.ex r0 c100
     have r1 := Ty.ex r1 c100
     have r2 := Ty.ex r2 c100
     have r8 := Ty.ex r8 c100
     have r37 := Ty.fz r37 c100
     have c0 := c0.trans c100.none
     refine w_tup ?_
     obtain ⟨u104, F105, r106, su107, kx108, ku109⟩ := itm_tup (n := 0) at0 r37
     obtain ⟨rfl, rfl⟩ := r106
     obtain ⟨u110, F111, r112, su113, kx114, ku115⟩ := itm_tup (n := 1) (atS at0) r37
     obtain ⟨rfl, rfl⟩ := r112
     refine w_args (va_cons (ku109 (val_var rfl) val_c) (va_cons (ku115 (val_var rfl) val_c) va_nil)) ?_
     refine e_tup (K := K) (ty := (sCons yInt (sOne yInt))) (F := []) (d := (x34.1, x34.2.1)) (by exact Nat.le_of_ble_eq_true rfl) ⟨_, _, _, _, rfl, rfl, yInt_i, ⟨_, rfl, yInt_i⟩⟩ fun p116 H120 np119 c117 r118  => ?_
     have r0 := Ty.ex r0 c117
     have r1 := Ty.ex r1 c117
     have r2 := Ty.ex r2 c117
     have r8 := Ty.ex r8 c117
     have r37 := Ty.fz r37 c117
     have r103 := Ty.fz r103 c117
     have c0 := c0.trans c117.none
     refine w_neD (τ := (yTup (sCons yInt (sOne yInt)))) (dat_tup (sat_cons dat_int (sat_one dat_int))) r103 r118 ?_
     refine ⟨_, rfl, ?_⟩
     refine c_if (fun hb => ?_) (fun hb => ?_)
     ·
       replace hbe30 := Mi.ifT hb hbe30
       refine q_ret ?_
       refine c_val val_c ?_
       obtain rfl := Option.some.inj hbe30
       obtain rfl := Mi.or_inl hore30
       obtain rfl := Option.some.inj (Mi.orR_inl hm)
       exact hQ _ _ _ c0 opt_n nil_fresh 
     replace hbe30 := Mi.ifF hb hbe30
     refine w_fall ?_
     obtain ⟨u121, F122, r123, su124, kx125, ku126⟩ := itm_tup (n := 1) (atS at0) r37
     obtain ⟨rfl, rfl⟩ := r123
     obtain ⟨u127, F128, r129, su130, kx131, ku132⟩ := itm_tup (n := 0) at0 r37
     obtain ⟨rfl, rfl⟩ := r129
     obtain ⟨x133, hx133, hbe30⟩ := Mi.bnd hbe30
     refine q_if (ans_t (val_le (ku126 (val_var rfl) val_c) (itm_LI r8 hx133 (val_var rfl) (ku132 (val_var rfl) val_c)))) (fun hb => ?_) (fun hb => ?_)
     ·
       replace hbe30 := Mi.ifT hb hbe30
       refine q_ret ?_
       refine c_val val_c ?_
       obtain rfl := Option.some.inj hbe30
       obtain rfl := Mi.or_inl hore30
       obtain rfl := Option.some.inj (Mi.orR_inl hm)
       exact hQ _ _ _ c0 opt_n nil_fresh 
     replace hbe30 := Mi.ifF hb hbe30
     refine w_fall ?_
     refine q_asg ?_
     obtain ⟨u134, F135, r136, su137, kx138, ku139⟩ := itm_tup (n := 1) (atS at0) r37
     obtain ⟨rfl, rfl⟩ := r136
     refine c_val (ku139 (val_var rfl) val_c) ?_
     refine w_gsub ?_
     refine c_val (val_var rfl) ?_
     obtain ⟨u140, F141, r142, su143, kx144, ku145⟩ := itm_tup (n := 0) at0 r37
     obtain ⟨rfl, rfl⟩ := r142
     refine c_val (ku145 (val_var rfl) val_c) ?_
     obtain ⟨x146, hx146, hbe30⟩ := Mi.bnd hbe30
     refine m_set r8 yInt_i hx146 fun H148 c147 r8 => ?_
     have r0 := Ty.chg r0 c147 d9
     have r1 := Ty.chg r1 c147 d10
     have r2 := Ty.chg r2 c147 d11
     have r37 := Ty.fz r37 c147
     have c0 := c0.join c147 (fun a h => .inr (n13 a h))
     refine w_nextJ ?_
     obtain rfl := Option.some.inj hbe30
     replace hore30 := Mi.or_inr hore30
     exact ⟨_, (some u36), rfl, c0, r0, r1, r2, r8, hore30⟩
   obtain ⟨s31, y32, rfl, c0, r0, r1, r2, r8, hle30⟩ := hp
   obtain rfl := Mi.forR_end hle30
   replace hm := Mi.orR_inr hm
   refine q_ret ?_
   refine c_val (val_var rfl) ?_
   obtain rfl := Option.some.inj hm
   exact hQ _ _ _ c0 (opt_i (nn_lst r8) r8) n13 
abbrev s_l_schedule_holds : Stmt := topS 60
abbrev N_l_schedule_holds : List Str := ["_law_schedule_here", "_law_plains_here", "_law_sailings_here", "_law_last", "_law_rows", "_law_plain_here", "_law_want", "_law_legs_here"]
theorem sc_l_schedule_holds : FnScope ["_law_schedule_here", "_law_plains_here", "_law_sailings_here", "_law_last", "_law_rows", "_law_plain_here", "_law_want", "_law_legs_here"] ["_law_schedule_here", "_law_plains_here", "_law_sailings_here", "_law_last", "_law_rows"] (defScope s_l_schedule_holds) := ⟨rfl, rfl, rfl, by decide +kernel, rfl, by decide +kernel, by decide +kernel⟩
def sp_l_schedule_holds (K : PySem.W.Frag) : Sp := fun vs H Q _ => ∃ (v0 : V) (F0 : List Addr) (d0 : (List Int)) (v1 : V) (F1 : List Addr) (d1 : (List ((List Nat) × Int × Int × Int × (List Int)))) (v2 : V) (F2 : List Addr) (d2 : (List (Int × Int))) (d3 : Int) (v4 : V) (F4 : List Addr) (d4 : (List (List Int))) (r : Bool), vs = [v0, v1, v2, (.int d3), v4] ∧ (yLst yInt).rep K H F0 v0 d0 ∧ (yLsg (yTup (sCons yStr (sCons yInt (sCons yInt (sCons yInt (sOne (yLst yInt)))))))).rep K H F1 v1 d1 ∧ (yLst (yTup (sCons yInt (sOne yInt)))).rep K H F2 v2 d2 ∧ (yLst (yFl yInt)).rep K H F4 v4 d4 ∧ Mi.m_l_schedule_holds d0 d1 d2 d3 d4 = some r ∧ ∀ H', Chg ([]) H H' → Q (.bl r) H'
theorem ok_l_schedule_holds (B : Bi mg) (CN : Cs K mg) (D : Dfn K mg "_law_schedule_holds" s_l_schedule_holds) (C_l_keeps : Cal P w K mg "_law_keeps" ["_law_plain_here", "_law_schedule_here", "_law_legs_here"] 1 (sp_l_keeps K)) (C_l_always : Cal P w K mg "_law_always" ["_law_plain_here", "_law_sailings_here", "_law_schedule_here"] 2 (sp_l_always K)) (C_l_asks : Cal P w K mg "_law_asks" ["_law_plain_here", "_law_sailings_here", "_law_hours", "_law_last"] 2 (sp_l_asks K)) : Cal P w K mg "_law_schedule_holds" ["_law_schedule_here", "_law_plains_here", "_law_sailings_here", "_law_last", "_law_rows"] 3 (sp_l_schedule_holds K) := by
 obtain ⟨f, fd, F, g⟩ := D.ex
 refine ⟨f, fd, g, F.kp, bindsF F (fun _ _ _ _ _ _ us hl => match us, hl with | [_, _, _, _, _], _ => rfl), fun base => F.ok sc_l_schedule_holds (fun vs H Q E h => ?_) (fun cdv A outer s H0 vs Q E hr h => ?_)⟩
 · obtain ⟨v0, F0, d0, v1, F1, d1, v2, F2, d2, d3, v4, F4, d4, r, rfl, r0, r1, r2, r4, hm, hQ⟩ := h; rfl
 ·
   obtain ⟨v0, F0, d0, v1, F1, d1, v2, F2, d2, d3, v4, F4, d4, r, rfl, r0, r1, r2, r4, hm, hQ⟩ := h
   refine ⟨_, pss_cons (ps_if (pt_cmpR op_gt (pe_callB (cl_maxL (K := K) rfl) (by rfl) B.max (by decide +kernel) (pa_cons (pv 0) pa_nil)) (pv 3) (nomark _)) (pss_cons (ps_ret pe_bl) pss_nil) (pss_nil))
     (pss_cons (ps_for PassesOwn.never rfl (pi_list (pv 1)) (pg_name (i := 5) sc_l_schedule_holds.nd rfl (.inr rfl)) (pss_cons (ps_set (i := 6) sc_l_schedule_holds.nd rfl (.inl rfl) (pe_cc C_l_asks hr (pa_cons (pv 5) (pa_cons (pv 2) (pa_cons (pv 0) (pa_cons (pv 3) pa_nil))))))
     (pss_cons (ps_if (PW.pt (pw_or (pt_cmpR op_gt (pe_ix (ix_t (K := K)) (pv 6) pe_int (fun _ _ => rfl)) (pe_ix (ix_l (K := K)) (pv 0) (pe_ix (ix_t (K := K)) (pv 6) pe_int (fun _ _ => rfl)) (fun _ _ => rfl)) (nomark _)) (pw_or1 (pt_not (pt_val (pe_cc C_l_always hr (pa_cons (pv 5) (pa_cons (pv 2) (pa_cons (pv 0) pa_nil))))))))) (pss_cons (ps_ret pe_bl) pss_nil) (pss_nil))
     (pss_cons (ps_if (pt_cmpR op_gt (pe_callB (cl_len (K := K)) (by rfl) B.len PySem.boot_len (pa_cons (pe_lc (own := [("_law_legs_here", 7)]) rfl sc_l_schedule_holds.nd (pi_list (pv 4)) (blkOk_by (own := [("_law_legs_here", 7)]) (N := N_l_schedule_holds) (sc := defScope s_l_schedule_holds) (by decide +kernel)) (fun _ _ _ _ _ => (pg_name (i := 7) sc_l_schedule_holds.nd rfl (.inl rfl))) (fun _ _ _ _ _ => (pts_one (pt_not (pt_val (pe_cc C_l_keeps hr (pa_cons (pv 5) (pa_cons (pv 0) (pa_cons (pv 7) pa_nil)))))))) (fun _ _ _ _ _ => (pv 7))) pa_nil)) pe_int (nomark _)) (pss_cons (ps_ret pe_bl) pss_nil) (pss_nil))
     (pss_nil)))))
     (pss_cons (ps_ret pe_bl) pss_nil)), ?_⟩
   have c0 : Chg ([] : List Addr) H0 H0 := Chg.refl H0
   unfold Mi.m_l_schedule_holds at hm
   refine q_ifS ?_
   refine w_test ?_
   refine w_op ?_
   refine w_cb ?_
   refine w_args (va_cons (val_var rfl) va_nil) ?_
   obtain ⟨x6, hx6, hm⟩ := Mi.bnd hm
   refine w_maxL r0 hx6 ?_
   refine c_val (val_var rfl) ?_
   refine w_I0 ?_
   refine ⟨_, rfl, ?_⟩
   refine c_if (fun hb => ?_) (fun hb => ?_)
   ·
     replace hm := Mi.ifT hb hm
     refine q_ret ?_
     refine c_val val_c ?_
     obtain rfl := Option.some.inj hm
     exact hQ _ c0 
   replace hm := Mi.ifF hb hm
   refine w_fall ?_
   refine q_for ?_
   refine w_iList ?_
   refine c_val (val_var rfl) ?_
   obtain ⟨e7, he7, hm⟩ := Mi.bnd hm
   refine l_lsg r1 (fun i σ' H' => ∃ (s8 : Unit) (y9 : Option V) (y10 : Option V), σ' = [some v0, some v1, some v2, some (.int d3), some v4, y9, y10, none] ∧ Chg ([] : List Addr) H0 H' ∧ (yLst yInt).rep K H' F0 v0 d0 ∧ (yLsg (yTup (sCons yStr (sCons yInt (sCons yInt (sCons yInt (sOne (yLst yInt)))))))).rep K H' F1 v1 d1 ∧ (yLst (yTup (sCons yInt (sOne yInt)))).rep K H' F2 v2 d2 ∧ (yLst (yFl yInt)).rep K H' F4 v4 d4 ∧ Mi.forR (Mi.m_l_schedule_holds_b1 d0 d2 d3 d4) s8 (List.drop i d1) = some e7) ⟨(), none, none, rfl, c0, r0, r1, r2, r4, he7⟩ (fun i σ' H' hp => by obtain ⟨s8, y9, y10, rfl, c0, r0, r1, r2, r4, _⟩ := hp; exact r1) (fun i13 x12 u14 F16 σ' H' hx11 r15 su17 hp => ?_) (fun σ' H' hp => ?_)
   ·
     obtain ⟨s8, y9, y10, rfl, c0, r0, r1, r2, r4, hle7⟩ := hp
     obtain ⟨o18, hbe7, hore7⟩ := Mi.forR_go hle7 hx11
     unfold Mi.m_l_schedule_holds_b1 at hbe7
     refine g_name (σ' := [some v0, some v1, some v2, some (.int d3), some v4, some u14, y10, none]) rfl ?_
     refine q_asg ?_
     refine w_call ?_
     refine w_args (va_cons (val_var rfl) (va_cons (val_var rfl) (va_cons (val_var rfl) (va_cons (val_var rfl) va_nil)))) ?_
     obtain ⟨q19, hq19, hbe7⟩ := Mi.bnd hbe7
     refine ⟨u14, F16, x12, v2, F2, d2, v0, F0, d0, d3, q19, rfl, r15, r2, r0, hq19, fun v22 H21 c20 r23  => ?_⟩
     have r0 := Ty.ex r0 c20
     have r1 := Ty.ex r1 c20
     have r2 := Ty.ex r2 c20
     have r4 := Ty.ex r4 c20
     have r15 := Ty.ex r15 c20
     have c0 := c0.trans c20.none
     refine g_name (σ' := [some v0, some v1, some v2, some (.int d3), some v4, some u14, some v22, none]) rfl ?_
     refine q_ifS ?_
     obtain ⟨b24, hb24, hbe7⟩ := Mi.bnd hbe7
     refine j_tt b24 (R := fun H' => Chg ([] : List Addr) H0 H' ∧ (yLst yInt).rep K H' F0 v0 d0 ∧ (yLsg (yTup (sCons yStr (sCons yInt (sCons yInt (sCons yInt (sOne (yLst yInt)))))))).rep K H' F1 v1 d1 ∧ (yLst (yTup (sCons yInt (sOne yInt)))).rep K H' F2 v2 d2 ∧ (yLst (yFl yInt)).rep K H' F4 v4 d4 ∧ (yTup (sCons yStr (sCons yInt (sCons yInt (sCons yInt (sOne (yLst yInt))))))).rep K H' F16 u14 x12 ∧ (yTup (sCons yInt (sOne yInt))).rep K H' [] v22 q19) (fun Q' kq => ?_) (fun H' hj => ?_)
     ·
       refine w_or ?_
       obtain ⟨u25, F26, r27, su28, kx29, ku30⟩ := itm_tup (n := 1) (atS at1) r23
       obtain ⟨rfl, rfl⟩ := r27
       obtain ⟨u31, F32, r33, su34, kx35, ku36⟩ := itm_tup (n := 0) at0 r23
       obtain ⟨rfl, rfl⟩ := r33
       obtain ⟨x37, hx37, hb24⟩ := Mi.bnd hb24
       refine c_ans (ans_t (val_gt (ku30 (val_var rfl) val_c) (itm_LI r0 hx37 (val_var rfl) (ku36 (val_var rfl) val_c)))) ?_
       refine c_if (fun hb => ?_) (fun hb => ?_)
       ·
         replace hb24 := Mi.ifT hb hb24
         obtain rfl := Option.some.inj hb24
         exact kq _ ⟨c0, r0, r1, r2, r4, r15, r23⟩
       replace hb24 := Mi.ifF hb hb24
       refine w_not ?_
       refine w_B ?_
       refine w_call ?_
       refine w_args (va_cons (val_var rfl) (va_cons (val_var rfl) (va_cons (val_var rfl) va_nil))) ?_
       obtain ⟨q38, hq38, hb24⟩ := Mi.bnd hb24
       refine Or.inl ⟨u14, F16, x12, v2, F2, d2, v0, F0, d0, q38, rfl, r15, r2, r0, hq38, fun H40 c39  => ?_⟩
       have r0 := Ty.ex r0 c39
       have r1 := Ty.ex r1 c39
       have r2 := Ty.ex r2 c39
       have r4 := Ty.ex r4 c39
       have r15 := Ty.ex r15 c39
       have r23 := Ty.fz r23 c39
       have c0 := c0.trans c39.none
       refine ⟨_, rfl, ?_⟩
       obtain rfl := Option.some.inj hb24
       exact kq _ ⟨c0, r0, r1, r2, r4, r15, r23⟩
     obtain ⟨c0, r0, r1, r2, r4, r15, r23⟩ := hj
     refine c_if (fun hb => ?_) (fun hb => ?_)
     ·
       replace hbe7 := Mi.ifT hb hbe7
       refine q_ret ?_
       refine c_val val_c ?_
       obtain rfl := Option.some.inj hbe7
       obtain rfl := Mi.or_inl hore7
       obtain rfl := Option.some.inj (Mi.orR_inl hm)
       exact hQ _ c0 
     replace hbe7 := Mi.ifF hb hbe7
     refine w_fall ?_
     refine q_ifS ?_
     refine w_test ?_
     refine w_op ?_
     refine w_cb ?_
     refine w_cons ?_
     refine w_lc ?_
     refine w_iList ?_
     refine c_val (val_var rfl) ?_
     obtain ⟨e41, he41, hbe7⟩ := Mi.bnd hbe7
     refine kc_lst (K := K) (τ := (yFl yInt)) r4 (fun D43 i H' => ∃ (s42 : (List (List Int))), Chg ([] : List Addr) H0 H' ∧ (yLst yInt).rep K H' F0 v0 d0 ∧ (yLsg (yTup (sCons yStr (sCons yInt (sCons yInt (sCons yInt (sOne (yLst yInt)))))))).rep K H' F1 v1 d1 ∧ (yLst (yTup (sCons yInt (sOne yInt)))).rep K H' F2 v2 d2 ∧ (yLst (yFl yInt)).rep K H' F4 v4 d4 ∧ (yTup (sCons yStr (sCons yInt (sCons yInt (sCons yInt (sOne (yLst yInt))))))).rep K H' F16 u14 x12 ∧ (yTup (sCons yInt (sOne yInt))).rep K H' [] v22 q19 ∧ (yLst (yFl yInt)).rep K H' [D43] (.ref D43) s42 ∧ Dj F0 [D43] ∧ Dj F1 [D43] ∧ Dj F2 [D43] ∧ Dj F4 [D43] ∧ Dj F16 [D43] ∧ (∀ a ∈ [D43], H0 a = none) ∧ Mi.forN (Mi.m_l_schedule_holds_b2 d0 x12) s42 (List.drop i d4) = some e41) (fun D43 H54 np53 c52 r44 => ⟨([] : (List (List Int))), c0.trans c52.none, (Ty.ex r0 c52), (Ty.ex r1 c52), (Ty.ex r2 c52), (Ty.ex r4 c52), (Ty.ex r15 c52), (Ty.fz r23 c52), r44, Ty.nin r0 np53, Ty.nin r1 np53, Ty.nin r2 np53, Ty.nin r4 np53, Ty.nin r15 np53, one_fresh (c0.dom D43 np53), he41⟩) (fun D43 i H' hp => by obtain ⟨s42, c0, r0, r1, r2, r4, r15, r23, r44, d45, d46, d47, d48, d49, n51, _⟩ := hp; exact r4) (fun D43 i57 x56 u59 H58 hx55 r60 hp => ?_) (fun D43 H' np53 hp => ?_)
     ·
       obtain ⟨s42, c0, r0, r1, r2, r4, r15, r23, r44, d45, d46, d47, d48, d49, n51, hle41⟩ := hp
       obtain ⟨_, hbe41, hle41⟩ := Mi.forN_go hle41 hx55
       unfold Mi.m_l_schedule_holds_b2 at hbe41
       refine g_name (σ' := [some v0, some v1, some v2, some (.int d3), some v4, some u14, some v22, some u59]) rfl ?_
       refine ⟨rfl, ?_⟩
       refine w_not ?_
       refine w_B ?_
       refine w_call ?_
       refine w_args (va_cons (val_var rfl) (va_cons (val_var rfl) (va_cons (val_var rfl) va_nil))) ?_
       obtain ⟨q65, hq65, hbe41⟩ := Mi.bnd hbe41
       refine ⟨u14, F16, x12, v0, F0, d0, u59, x56, q65, rfl, r15, r0, r60, hq65, fun H67 c66  => ?_⟩
       have r0 := Ty.ex r0 c66
       have r1 := Ty.ex r1 c66
       have r2 := Ty.ex r2 c66
       have r4 := Ty.ex r4 c66
       have r15 := Ty.ex r15 c66
       have r23 := Ty.fz r23 c66
       have r60 := Ty.fz r60 c66
       have r44 := Ty.ex r44 c66
       have c0 := c0.trans c66.none
       refine ⟨_, rfl, ?_⟩
       refine c_if (fun hb => ?_) (fun hb => ?_)
       ·
         replace hbe41 := Mi.ifT hb hbe41
         refine c_val (val_var rfl) ?_
         obtain ⟨x68, hx68, hbe41⟩ := Mi.bnd hbe41
         refine e_app r44 r60 hx68 fun H70 c69 r44 => ?_
         have r0 := Ty.chg r0 c69 d45
         have r1 := Ty.chg r1 c69 d46
         have r2 := Ty.chg r2 c69 d47
         have r4 := Ty.chg r4 c69 d48
         have r15 := Ty.chg r15 c69 d49
         have r23 := Ty.fz r23 c69
         have r60 := Ty.fz r60 c69
         have c0 := c0.join c69 (fun a h => .inr (n51 a h))
         obtain rfl := Option.some.inj hbe41
         exact ⟨x68, c0, r0, r1, r2, r4, r15, r23, r44, d45, d46, d47, d48, d49, n51, hle41⟩
       ·
         replace hbe41 := Mi.ifF hb hbe41
         obtain rfl := Option.some.inj hbe41
         exact ⟨s42, c0, r0, r1, r2, r4, r15, r23, r44, d45, d46, d47, d48, d49, n51, hle41⟩
     obtain ⟨s42, c0, r0, r1, r2, r4, r15, r23, r44, d45, d46, d47, d48, d49, n51, hle41⟩ := hp
     obtain rfl := Mi.forN_end hle41
     refine w_nil ?_
     refine w_lenL r44 ?_
     refine c_val val_c ?_
     refine w_I0 ?_
     refine ⟨_, rfl, ?_⟩
     refine c_if (fun hb => ?_) (fun hb => ?_)
     ·
       replace hbe7 := Mi.ifT hb hbe7
       refine q_ret ?_
       refine c_val val_c ?_
       obtain rfl := Option.some.inj hbe7
       obtain rfl := Mi.or_inl hore7
       obtain rfl := Option.some.inj (Mi.orR_inl hm)
       exact hQ _ c0 
     replace hbe7 := Mi.ifF hb hbe7
     refine w_fall ?_
     refine w_nextJ ?_
     obtain rfl := Option.some.inj hbe7
     replace hore7 := Mi.or_inr hore7
     exact ⟨_, (some u14), (some v22), rfl, c0, r0, r1, r2, r4, hore7⟩
   obtain ⟨s8, y9, y10, rfl, c0, r0, r1, r2, r4, hle7⟩ := hp
   obtain rfl := Mi.forR_end hle7
   replace hm := Mi.orR_inr hm
   refine q_ret ?_
   refine c_val val_c ?_
   obtain rfl := Option.some.inj hm
   exact hQ _ c0 
abbrev s_l_answer_holds : Stmt := topS 61
abbrev N_l_answer_holds : List Str := ["_law_told_here", "_law_plains_here", "_law_sailings_here", "_law_last", "_law_rows", "_law_hours", "_law_x"]
theorem sc_l_answer_holds : FnScope ["_law_told_here", "_law_plains_here", "_law_sailings_here", "_law_last", "_law_rows", "_law_hours", "_law_x"] ["_law_told_here", "_law_plains_here", "_law_sailings_here", "_law_last", "_law_rows"] (defScope s_l_answer_holds) := ⟨rfl, rfl, rfl, by decide +kernel, rfl, by decide +kernel, by decide +kernel⟩
def sp_l_answer_holds (K : PySem.W.Frag) : Sp := fun vs H Q _ => ∃ (v0 : V) (F0 : List Addr) (d0 : ((Option (List Int)) × (List (Int × Int × Int)))) (v1 : V) (F1 : List Addr) (d1 : (List ((List Nat) × Int × Int × Int × (List Int)))) (v2 : V) (F2 : List Addr) (d2 : (List (Int × Int))) (d3 : Int) (v4 : V) (F4 : List Addr) (d4 : (List (List Int))) (r : Bool), vs = [v0, v1, v2, (.int d3), v4] ∧ (yTup (sCons (yOpt (yLst yInt)) (sOne (yLst (yTup (sCons yInt (sCons yInt (sOne yInt)))))))).rep K H F0 v0 d0 ∧ (yLsg (yTup (sCons yStr (sCons yInt (sCons yInt (sCons yInt (sOne (yLst yInt)))))))).rep K H F1 v1 d1 ∧ (yLst (yTup (sCons yInt (sOne yInt)))).rep K H F2 v2 d2 ∧ (yLst (yFl yInt)).rep K H F4 v4 d4 ∧ Mi.m_l_answer_holds d0 d1 d2 d3 d4 = some r ∧ ∀ H', Chg ([]) H H' → Q (.bl r) H'
theorem ok_l_answer_holds (B : Bi mg) (CN : Cs K mg) (D : Dfn K mg "_law_answer_holds" s_l_answer_holds) (C_l_int : Cal P w K mg "_law_int" ["_law_x"] 1 (sp_l_int K)) (C_l_walk : Cal P w K mg "_law_walk" ["_law_plains_here", "_law_sailings_here", "_law_lifts", "_law_last"] 3 (sp_l_walk K)) (C_l_schedule_holds : Cal P w K mg "_law_schedule_holds" ["_law_schedule_here", "_law_plains_here", "_law_sailings_here", "_law_last", "_law_rows"] 3 (sp_l_schedule_holds K)) : Cal P w K mg "_law_answer_holds" ["_law_told_here", "_law_plains_here", "_law_sailings_here", "_law_last", "_law_rows"] 4 (sp_l_answer_holds K) := by
 obtain ⟨f, fd, F, g⟩ := D.ex
 refine ⟨f, fd, g, F.kp, bindsF F (fun _ _ _ _ _ _ us hl => match us, hl with | [_, _, _, _, _], _ => rfl), fun base => F.ok sc_l_answer_holds (fun vs H Q E h => ?_) (fun cdv A outer s H0 vs Q E hr h => ?_)⟩
 · obtain ⟨v0, F0, d0, v1, F1, d1, v2, F2, d2, d3, v4, F4, d4, r, rfl, r0, r1, r2, r4, hm, hQ⟩ := h; rfl
 ·
   obtain ⟨v0, F0, d0, v1, F1, d1, v2, F2, d2, d3, v4, F4, d4, r, rfl, r0, r1, r2, r4, hm, hQ⟩ := h
   refine ⟨_, pss_cons (ps_if (PW.pt (pw_or (pt_not (pt_val (pe_callB (cl_isi (K := K)) (by rfl) B.isinstance (by decide +kernel) (pa_cons (pv 0) (pa_cons (pe_bltn (v := .ty "tuple") (by rfl) B.tuple (by decide +kernel) rfl) pa_nil))))) (pw_or (pt_cmpR op_ne (pe_callB (cl_len (K := K)) (by rfl) B.len PySem.boot_len (pa_cons (pv 0) pa_nil)) pe_int (nomark _)) (pw_or1 (pt_not (pt_val (pe_callB (cl_isi (K := K)) (by rfl) B.isinstance (by decide +kernel) (pa_cons (pe_ix (ix_t (K := K)) (pv 0) pe_int (fun _ _ => rfl)) (pa_cons (pe_bltn (v := .ty "list") (by rfl) B.list (by decide +kernel) rfl) pa_nil))))))))) (pss_cons (ps_ret pe_bl) pss_nil) (pss_nil))
     (pss_cons (ps_set (i := 5) sc_l_answer_holds.nd rfl (.inl rfl) (pe_cc C_l_walk hr (pa_cons (pv 1) (pa_cons (pv 2) (pa_cons (pe_ix (ix_t (K := K)) (pv 0) pe_int (fun _ _ => rfl)) (pa_cons (pv 3) pa_nil))))))
     (pss_cons (ps_if (pt_cmpR op_isN1 (pv 5) pe_non (nomark _)) (pss_cons (ps_ret pe_bl) pss_nil) (pss_nil))
     (pss_cons (ps_if (pt_cmpR op_isN1 (pe_ix (ix_t (K := K)) (pv 0) pe_int (fun _ _ => rfl)) pe_non (nomark _)) (pss_cons (ps_ret (pe_cmpR op_gt (pe_callB (cl_maxL (K := K) rfl) (by rfl) B.max (by decide +kernel) (pa_cons (pv 5) pa_nil)) (pv 3) (nomark _))) pss_nil) (pss_nil))
     (pss_cons (ps_if (PW.pt (pw_or (pt_not (pt_val (pe_callB (cl_isi (K := K)) (by rfl) B.isinstance (by decide +kernel) (pa_cons (pe_ix (ix_t (K := K)) (pv 0) pe_int (fun _ _ => rfl)) (pa_cons (pe_bltn (v := .ty "list") (by rfl) B.list (by decide +kernel) rfl) pa_nil))))) (pw_or (pt_cmpR (op_ne_d hr.units) (pe_ix (ix_t (K := K)) (pv 0) pe_int (fun _ _ => rfl)) (pv 5) (nomark _)) (pw_or1 (pt_cmpR op_gt (pe_callB (cl_len (K := K)) (by rfl) B.len PySem.boot_len (pa_cons (pe_lc (own := [("_law_x", 6)]) rfl sc_l_answer_holds.nd (pi_list (pe_ix (ix_t (K := K)) (pv 0) pe_int (fun _ _ => rfl))) (blkOk_by (own := [("_law_x", 6)]) (N := N_l_answer_holds) (sc := defScope s_l_answer_holds) (by decide +kernel)) (fun _ _ _ _ _ => (pg_name (i := 6) sc_l_answer_holds.nd rfl (.inl rfl))) (fun _ _ _ _ _ => (pts_one (pt_not (pt_val (pe_cc C_l_int hr (pa_cons (pv 6) pa_nil)))))) (fun _ _ _ _ _ => (pv 6))) pa_nil)) pe_int (nomark _)))))) (pss_cons (ps_ret pe_bl) pss_nil) (pss_nil))
     (pss_cons (ps_ret (pe_cc C_l_schedule_holds hr (pa_cons (pe_ix (ix_t (K := K)) (pv 0) pe_int (fun _ _ => rfl)) (pa_cons (pv 1) (pa_cons (pv 2) (pa_cons (pv 3) (pa_cons (pv 4) pa_nil))))))) pss_nil))))), ?_⟩
   have c0 : Chg ([] : List Addr) H0 H0 := Chg.refl H0
   unfold Mi.m_l_answer_holds at hm
   obtain ⟨u8, F9, r10, su11, kx12, ku13⟩ := itm_tup (n := 1) (atS at1) r0
   refine q_if (ans_orB (ans_N (ans_B (val_isi (val_var rfl) (ty_tup r0) (n := "tuple") (m := "tuple") (b := true) (by decide +kernel)))) (fun _ => (ans_orB (ans_t (val_neI (val_lenU (n := 2) (lens_cons lens_one) r0 (val_var rfl)) val_c)) (fun _ => (ans_N (ans_B (val_isi (ku13 (val_var rfl) val_c) (ty_lst r10) (n := "list") (m := "list") (b := true) (by decide +kernel)))))))) (fun hb => ?_) (fun hb => ?_)
   ·
     replace hm := Mi.ifT hb hm
     refine q_ret ?_
     refine c_val val_c ?_
     obtain rfl := Option.some.inj hm
     exact hQ _ c0 
   replace hm := Mi.ifF hb hm
   refine w_fall ?_
   refine q_asg ?_
   refine w_call ?_
   obtain ⟨u14, F15, r16, su17, kx18, ku19⟩ := itm_tup (n := 1) (atS at1) r0
   refine w_args (va_cons (val_var rfl) (va_cons (val_var rfl) (va_cons (ku19 (val_var rfl) val_c) (va_cons (val_var rfl) va_nil)))) ?_
   obtain ⟨q20, hq20, hm⟩ := Mi.bnd hm
   refine ⟨v1, F1, d1, v2, F2, d2, u14, F15, d0.2, d3, q20, rfl, r1, r2, r16, hq20, fun v23 H22 F25 c21 r24 fr26  => ?_⟩
   have d27 : Dj F0 F25 := Ty.fresh r0 fr26
   have d28 : Dj F1 F25 := Ty.fresh r1 fr26
   have d29 : Dj F2 F25 := Ty.fresh r2 fr26
   have d30 : Dj F4 F25 := Ty.fresh r4 fr26
   have n31 : ∀ a ∈ F25, H0 a = none := fun a h => c0.dom a (fr26 a h)
   have r0 := Ty.ex r0 c21
   have r1 := Ty.ex r1 c21
   have r2 := Ty.ex r2 c21
   have r4 := Ty.ex r4 c21
   have c0 := c0.trans c21.none
   refine g_name (σ' := [some v0, some v1, some v2, some (.int d3), some v4, some v23, none]) rfl ?_
   refine q_if (ans_t (val_isN r24 (val_var rfl))) (fun hb => ?_) (fun hb => ?_)
   ·
     replace hm := Mi.ifT hb hm
     refine q_ret ?_
     refine c_val val_c ?_
     obtain rfl := Option.some.inj hm
     exact hQ _ c0 
   replace hm := Mi.ifF hb hm
   refine w_fall ?_
   obtain ⟨u32, F33, r34, su35, kx36, ku37⟩ := itm_tup (n := 0) at0 r0
   have d38 : Dj F33 F25 := Dj.sub (d27) su35
   refine q_if (ans_t (val_isN r34 (ku37 (val_var rfl) val_c))) (fun hb => ?_) (fun hb => ?_)
   ·
     replace hm := Mi.ifT hb hm
     refine q_ret ?_
     refine w_op ?_
     refine w_cb ?_
     refine w_args (va_cons (val_var rfl) va_nil) ?_
     obtain ⟨x39, hx39, hm⟩ := Mi.bnd hm
     have r40 := opt_some r24 hx39
     obtain ⟨x41, hx41, hm⟩ := Mi.bnd hm
     refine w_maxL r40 hx41 ?_
     refine c_val (val_var rfl) ?_
     refine w_I0 ?_
     obtain rfl := Option.some.inj hm
     exact hQ _ c0 
   replace hm := Mi.ifF hb hm
   refine w_fall ?_
   refine q_ifS ?_
   obtain ⟨b42, hb42, hm⟩ := Mi.bnd hm
   refine j_tt b42 (R := fun H' => Chg ([] : List Addr) H0 H' ∧ (yTup (sCons (yOpt (yLst yInt)) (sOne (yLst (yTup (sCons yInt (sCons yInt (sOne yInt)))))))).rep K H' F0 v0 d0 ∧ (yLsg (yTup (sCons yStr (sCons yInt (sCons yInt (sCons yInt (sOne (yLst yInt)))))))).rep K H' F1 v1 d1 ∧ (yLst (yTup (sCons yInt (sOne yInt)))).rep K H' F2 v2 d2 ∧ (yLst (yFl yInt)).rep K H' F4 v4 d4 ∧ (yOpt (yLst yInt)).rep K H' F25 v23 q20) (fun Q' kq => ?_) (fun H' hj => ?_)
   ·
     refine w_or ?_
     obtain ⟨u43, F44, r45, su46, kx47, ku48⟩ := itm_tup (n := 0) at0 r0
     have d49 : Dj F44 F25 := Dj.sub (d27) su46
     refine c_ans (ans_N (ans_B (val_isiO (n := "list") (m := "list") (b := true) ty_lst r45 (ku48 (val_var rfl) val_c) (by decide +kernel) (by decide +kernel)))) ?_
     refine c_if (fun hb => ?_) (fun hb => ?_)
     ·
       replace hb42 := Mi.ifT hb hb42
       obtain rfl := Option.some.inj hb42
       exact kq _ ⟨c0, r0, r1, r2, r4, r24⟩
     replace hb42 := Mi.ifF hb hb42
     refine w_or ?_
     refine w_test ?_
     refine w_op ?_
     obtain ⟨u50, F51, r52, su53, kx54, ku55⟩ := itm_tup (n := 0) at0 r0
     have d56 : Dj F51 F25 := Dj.sub (d27) su53
     refine c_val (ku55 (val_var rfl) val_c) ?_
     refine c_val (val_var rfl) ?_
     obtain ⟨x57, hx57, hb42⟩ := Mi.bnd hb42
     have r58 := opt_some r52 hx57
     obtain ⟨x59, hx59, hb42⟩ := Mi.bnd hb42
     have r60 := opt_some r24 hx59
     refine w_neD (τ := (yLst yInt)) (dat_lst dat_int) r58 r60 ?_
     refine ⟨_, rfl, ?_⟩
     refine c_if (fun hb => ?_) (fun hb => ?_)
     ·
       replace hb42 := Mi.ifT hb hb42
       obtain rfl := Option.some.inj hb42
       exact kq _ ⟨c0, r0, r1, r2, r4, (opt_back hx59 (nn_lst r60) r60)⟩
     replace hb42 := Mi.ifF hb hb42
     refine w_test ?_
     refine w_op ?_
     refine w_cb ?_
     refine w_cons ?_
     refine w_lc ?_
     refine w_iList ?_
     obtain ⟨u61, F62, r63, su64, kx65, ku66⟩ := itm_tup (n := 0) at0 r0
     have d67 : Dj F62 F25 := Dj.sub (d27) su64
     refine c_val (ku66 (val_var rfl) val_c) ?_
     obtain ⟨x68, hx68, hb42⟩ := Mi.bnd hb42
     have r69 := opt_some r63 hx68
     obtain ⟨e70, he70, hb42⟩ := Mi.bnd hb42
     refine kc_lst (K := K) (τ := yInt) r69 (fun D72 i H' => ∃ (s71 : (List Int)), Chg ([] : List Addr) H0 H' ∧ (yTup (sCons (yOpt (yLst yInt)) (sOne (yLst (yTup (sCons yInt (sCons yInt (sOne yInt)))))))).rep K H' F0 v0 d0 ∧ (yLsg (yTup (sCons yStr (sCons yInt (sCons yInt (sCons yInt (sOne (yLst yInt)))))))).rep K H' F1 v1 d1 ∧ (yLst (yTup (sCons yInt (sOne yInt)))).rep K H' F2 v2 d2 ∧ (yLst (yFl yInt)).rep K H' F4 v4 d4 ∧ (yLst yInt).rep K H' F25 v23 x59 ∧ (yLst yInt).rep K H' F62 u61 x68 ∧ (yLst yInt).rep K H' [D72] (.ref D72) s71 ∧ Dj F0 [D72] ∧ Dj F1 [D72] ∧ Dj F2 [D72] ∧ Dj F4 [D72] ∧ Dj F25 [D72] ∧ Dj F62 [D72] ∧ (∀ a ∈ [D72], H0 a = none) ∧ Mi.forN (Mi.m_l_answer_holds_b1) s71 (List.drop i x68) = some e70) (fun D72 H84 np83 c82 r73 => ⟨([] : (List Int)), c0.trans c82.none, (Ty.ex r0 c82), (Ty.ex r1 c82), (Ty.ex r2 c82), (Ty.ex r4 c82), (Ty.ex r60 c82), (Ty.ex r69 c82), r73, Ty.nin r0 np83, Ty.nin r1 np83, Ty.nin r2 np83, Ty.nin r4 np83, Ty.nin r60 np83, Ty.nin r69 np83, one_fresh (c0.dom D72 np83), he70⟩) (fun D72 i H' hp => by obtain ⟨s71, c0, r0, r1, r2, r4, r60, r69, r73, d74, d75, d76, d77, d78, d79, n81, _⟩ := hp; exact r69) (fun D72 i87 x86 u89 H88 hx85 r90 hp => ?_) (fun D72 H' np83 hp => ?_)
     ·
       obtain ⟨s71, c0, r0, r1, r2, r4, r60, r69, r73, d74, d75, d76, d77, d78, d79, n81, hle70⟩ := hp
       obtain ⟨_, hbe70, hle70⟩ := Mi.forN_go hle70 hx85
       unfold Mi.m_l_answer_holds_b1 at hbe70
       obtain ⟨_, rfl⟩ := r90
       refine g_name (σ' := [some v0, some v1, some v2, some (.int d3), some v4, some v23, some (.int x86)]) rfl ?_
       refine ⟨rfl, ?_⟩
       refine w_not ?_
       refine w_B ?_
       refine w_call ?_
       refine w_args (va_cons (val_var rfl) va_nil) ?_
       obtain ⟨q95, hq95, hbe70⟩ := Mi.bnd hbe70
       refine Or.inl ⟨x86, q95, rfl, hq95, fun H97 c96  => ?_⟩
       have r0 := Ty.ex r0 c96
       have r1 := Ty.ex r1 c96
       have r2 := Ty.ex r2 c96
       have r4 := Ty.ex r4 c96
       have r60 := Ty.ex r60 c96
       have r69 := Ty.ex r69 c96
       have r73 := Ty.ex r73 c96
       have c0 := c0.trans c96.none
       refine ⟨_, rfl, ?_⟩
       refine c_if (fun hb => ?_) (fun hb => ?_)
       ·
         replace hbe70 := Mi.ifT hb hbe70
         refine c_val (val_var rfl) ?_
         obtain ⟨x98, hx98, hbe70⟩ := Mi.bnd hbe70
         refine e_app r73 yInt_i hx98 fun H100 c99 r73 => ?_
         have r0 := Ty.chg r0 c99 d74
         have r1 := Ty.chg r1 c99 d75
         have r2 := Ty.chg r2 c99 d76
         have r4 := Ty.chg r4 c99 d77
         have r60 := Ty.chg r60 c99 d78
         have r69 := Ty.chg r69 c99 d79
         have c0 := c0.join c99 (fun a h => .inr (n81 a h))
         obtain rfl := Option.some.inj hbe70
         exact ⟨x98, c0, r0, r1, r2, r4, r60, r69, r73, d74, d75, d76, d77, d78, d79, n81, hle70⟩
       ·
         replace hbe70 := Mi.ifF hb hbe70
         obtain rfl := Option.some.inj hbe70
         exact ⟨s71, c0, r0, r1, r2, r4, r60, r69, r73, d74, d75, d76, d77, d78, d79, n81, hle70⟩
     obtain ⟨s71, c0, r0, r1, r2, r4, r60, r69, r73, d74, d75, d76, d77, d78, d79, n81, hle70⟩ := hp
     obtain rfl := Mi.forN_end hle70
     refine w_nil ?_
     refine w_lenL r73 ?_
     refine c_val val_c ?_
     refine w_I0 ?_
     refine ⟨_, rfl, ?_⟩
     obtain rfl := Option.some.inj hb42
     exact kq _ ⟨c0, r0, r1, r2, r4, (opt_back hx59 (nn_lst r60) r60)⟩
   obtain ⟨c0, r0, r1, r2, r4, r24⟩ := hj
   refine c_if (fun hb => ?_) (fun hb => ?_)
   ·
     replace hm := Mi.ifT hb hm
     refine q_ret ?_
     refine c_val val_c ?_
     obtain rfl := Option.some.inj hm
     exact hQ _ c0 
   replace hm := Mi.ifF hb hm
   refine w_fall ?_
   refine q_ret ?_
   refine w_call ?_
   obtain ⟨u101, F102, r103, su104, kx105, ku106⟩ := itm_tup (n := 0) at0 r0
   have d107 : Dj F102 F25 := Dj.sub (d27) su104
   refine w_args (va_cons (ku106 (val_var rfl) val_c) (va_cons (val_var rfl) (va_cons (val_var rfl) (va_cons (val_var rfl) (va_cons (val_var rfl) va_nil))))) ?_
   obtain ⟨x108, hx108, hm⟩ := Mi.bnd hm
   have r109 := opt_some r103 hx108
   obtain ⟨q110, hq110, hm⟩ := Mi.bnd hm
   refine ⟨u101, F102, x108, v1, F1, d1, v2, F2, d2, d3, v4, F4, d4, q110, rfl, r109, r1, r2, r4, hq110, fun H112 c111  => ?_⟩
   have r0 := Ty.ex r0 c111
   have r1 := Ty.ex r1 c111
   have r2 := Ty.ex r2 c111
   have r4 := Ty.ex r4 c111
   have r24 := Ty.ex r24 c111
   have c0 := c0.trans c111.none
   obtain rfl := Option.some.inj hm
   exact hQ _ c0 
abbrev s_l_not_below : Stmt := topS 62
abbrev N_l_not_below : List Str := ["_law_least", "_law_plains_here", "_law_sailings_here", "_law_rival", "_law_last", "_law_k", "_law_plain_here"]
theorem sc_l_not_below : FnScope ["_law_least", "_law_plains_here", "_law_sailings_here", "_law_rival", "_law_last", "_law_k", "_law_plain_here"] ["_law_least", "_law_plains_here", "_law_sailings_here", "_law_rival", "_law_last"] (defScope s_l_not_below) := ⟨rfl, rfl, rfl, by decide +kernel, rfl, by decide +kernel, by decide +kernel⟩
def sp_l_not_below (K : PySem.W.Frag) : Sp := fun vs H Q _ => ∃ (v0 : V) (F0 : List Addr) (d0 : (Option (List Int))) (v1 : V) (F1 : List Addr) (d1 : (List ((List Nat) × Int × Int × Int × (List Int)))) (v2 : V) (F2 : List Addr) (d2 : (List (Int × Int))) (v3 : V) (d3 : (List Int)) (d4 : Int) (r : Bool), vs = [v0, v1, v2, v3, (.int d4)] ∧ (yOpt (yLst yInt)).rep K H F0 v0 d0 ∧ (yLsg (yTup (sCons yStr (sCons yInt (sCons yInt (sCons yInt (sOne (yLst yInt)))))))).rep K H F1 v1 d1 ∧ (yLst (yTup (sCons yInt (sOne yInt)))).rep K H F2 v2 d2 ∧ (yFl yInt).rep K H [] v3 d3 ∧ Mi.m_l_not_below d0 d1 d2 d3 d4 = some r ∧ ∀ H', Chg ([]) H H' → Q (.bl r) H'
theorem ok_l_not_below (B : Bi mg) (CN : Cs K mg) (D : Dfn K mg "_law_not_below" s_l_not_below) (C_l_always : Cal P w K mg "_law_always" ["_law_plain_here", "_law_sailings_here", "_law_schedule_here"] 2 (sp_l_always K)) : Cal P w K mg "_law_not_below" ["_law_least", "_law_plains_here", "_law_sailings_here", "_law_rival", "_law_last"] 3 (sp_l_not_below K) := by
 obtain ⟨f, fd, F, g⟩ := D.ex
 refine ⟨f, fd, g, F.kp, bindsF F (fun _ _ _ _ _ _ us hl => match us, hl with | [_, _, _, _, _], _ => rfl), fun base => F.ok sc_l_not_below (fun vs H Q E h => ?_) (fun cdv A outer s H0 vs Q E hr h => ?_)⟩
 · obtain ⟨v0, F0, d0, v1, F1, d1, v2, F2, d2, v3, d3, d4, r, rfl, r0, r1, r2, r3, hm, hQ⟩ := h; rfl
 ·
   obtain ⟨v0, F0, d0, v1, F1, d1, v2, F2, d2, v3, d3, d4, r, rfl, r0, r1, r2, r3, hm, hQ⟩ := h
   refine ⟨_, pss_cons (ps_if (PW.pt (pw_or (pt_cmpR op_gt (pe_callB (cl_maxL (K := K) rfl) (by rfl) B.max (by decide +kernel) (pa_cons (pv 3) pa_nil)) (pv 4) (nomark _)) (pw_or1 (pt_cmpR op_gt (pe_callB (cl_len (K := K)) (by rfl) B.len PySem.boot_len (pa_cons (pe_lc (own := [("_law_plain_here", 6)]) rfl sc_l_not_below.nd (pi_list (pv 1)) (blkOk_by (own := [("_law_plain_here", 6)]) (N := N_l_not_below) (sc := defScope s_l_not_below) (by decide +kernel)) (fun _ _ _ _ _ => (pg_name (i := 6) sc_l_not_below.nd rfl (.inl rfl))) (fun _ _ _ _ _ => (pts_one (pt_not (pt_val (pe_cc C_l_always hr (pa_cons (pv 6) (pa_cons (pv 2) (pa_cons (pv 3) pa_nil)))))))) (fun _ _ _ _ _ => (pv 6))) pa_nil)) pe_int (nomark _))))) (pss_cons (ps_ret pe_bl) pss_nil) (pss_nil))
     (pss_cons (ps_if (pt_cmpR op_isN1 (pv 0) pe_non (nomark _)) (pss_cons (ps_ret pe_bl) pss_nil) (pss_nil))
     (pss_cons (ps_ret (pe_cmpR op_eq (pe_callB (cl_len (K := K)) (by rfl) B.len PySem.boot_len (pa_cons (pe_lc (own := [("_law_k", 5)]) rfl sc_l_not_below.nd (pi_range1 (by rfl) B.range (pa_cons (pe_callB (cl_len (K := K)) (by rfl) B.len PySem.boot_len (pa_cons (pv 3) pa_nil)) pa_nil)) (blkOk_by (own := [("_law_k", 5)]) (N := N_l_not_below) (sc := defScope s_l_not_below) (by decide +kernel)) (fun _ _ _ _ _ => (pg_name (i := 5) sc_l_not_below.nd rfl (.inl rfl))) (fun _ _ _ _ _ => (pts_one (pt_cmpR op_lt (pe_ix (ix_l (K := K)) (pv 3) (pv 5) (fun _ _ => rfl)) (pe_ix (ix_l (K := K)) (pv 0) (pv 5) (fun _ _ => rfl)) (nomark _)))) (fun _ _ _ _ _ => (pv 5))) pa_nil)) pe_int (nomark _))) pss_nil)), ?_⟩
   have c0 : Chg ([] : List Addr) H0 H0 := Chg.refl H0
   unfold Mi.m_l_not_below at hm
   refine q_ifS ?_
   obtain ⟨b6, hb6, hm⟩ := Mi.bnd hm
   refine j_tt b6 (R := fun H' => Chg ([] : List Addr) H0 H' ∧ (yOpt (yLst yInt)).rep K H' F0 v0 d0 ∧ (yLsg (yTup (sCons yStr (sCons yInt (sCons yInt (sCons yInt (sOne (yLst yInt)))))))).rep K H' F1 v1 d1 ∧ (yLst (yTup (sCons yInt (sOne yInt)))).rep K H' F2 v2 d2 ∧ (yFl yInt).rep K H' [] v3 d3) (fun Q' kq => ?_) (fun H' hj => ?_)
   ·
     refine w_or ?_
     refine w_test ?_
     refine w_op ?_
     refine w_cb ?_
     refine w_args (va_cons (val_var rfl) va_nil) ?_
     obtain ⟨x7, hx7, hb6⟩ := Mi.bnd hb6
     refine w_maxF r3 hx7 ?_
     refine c_val (val_var rfl) ?_
     refine w_I0 ?_
     refine ⟨_, rfl, ?_⟩
     refine c_if (fun hb => ?_) (fun hb => ?_)
     ·
       replace hb6 := Mi.ifT hb hb6
       obtain rfl := Option.some.inj hb6
       exact kq _ ⟨c0, r0, r1, r2, r3⟩
     replace hb6 := Mi.ifF hb hb6
     refine w_test ?_
     refine w_op ?_
     refine w_cb ?_
     refine w_cons ?_
     refine w_lc ?_
     refine w_iList ?_
     refine c_val (val_var rfl) ?_
     obtain ⟨e8, he8, hb6⟩ := Mi.bnd hb6
     refine kc_lsg (K := K) (τ := yAny) r1 (fun D10 i H' => ∃ (s9 : (List Unit)), Chg ([] : List Addr) H0 H' ∧ (yOpt (yLst yInt)).rep K H' F0 v0 d0 ∧ (yLsg (yTup (sCons yStr (sCons yInt (sCons yInt (sCons yInt (sOne (yLst yInt)))))))).rep K H' F1 v1 d1 ∧ (yLst (yTup (sCons yInt (sOne yInt)))).rep K H' F2 v2 d2 ∧ (yFl yInt).rep K H' [] v3 d3 ∧ (yLst yAny).rep K H' [D10] (.ref D10) s9 ∧ Dj F0 [D10] ∧ Dj F1 [D10] ∧ Dj F2 [D10] ∧ (∀ a ∈ [D10], H0 a = none) ∧ Mi.forN (Mi.m_l_not_below_b1 d2 d3) s9 (List.drop i d1) = some e8) (fun D10 H19 np18 c17 r11 => ⟨([] : (List Unit)), c0.trans c17.none, (Ty.ex r0 c17), (Ty.ex r1 c17), (Ty.ex r2 c17), (Ty.fz r3 c17), r11, Ty.nin r0 np18, Ty.nin r1 np18, Ty.nin r2 np18, one_fresh (c0.dom D10 np18), he8⟩) (fun D10 i H' hp => by obtain ⟨s9, c0, r0, r1, r2, r3, r11, d12, d13, d14, n16, _⟩ := hp; exact r1) (fun D10 i22 x21 u24 F26 H23 hx20 r25 su27 hp => ?_) (fun D10 H' np18 hp => ?_)
     ·
       obtain ⟨s9, c0, r0, r1, r2, r3, r11, d12, d13, d14, n16, hle8⟩ := hp
       obtain ⟨_, hbe8, hle8⟩ := Mi.forN_go hle8 hx20
       unfold Mi.m_l_not_below_b1 at hbe8
       have d30 : Dj F26 [D10] := Dj.sub (d13) su27
       refine g_name (σ' := [some v0, some v1, some v2, some v3, some (.int d4), none, some u24]) rfl ?_
       refine ⟨rfl, ?_⟩
       refine w_not ?_
       refine w_B ?_
       refine w_call ?_
       refine w_args (va_cons (val_var rfl) (va_cons (val_var rfl) (va_cons (val_var rfl) va_nil))) ?_
       obtain ⟨q31, hq31, hbe8⟩ := Mi.bnd hbe8
       refine Or.inr (⟨u24, F26, x21, v2, F2, d2, v3, d3, q31, rfl, r25, r2, r3, hq31, fun H33 c32  => ?_⟩)
       have r0 := Ty.ex r0 c32
       have r1 := Ty.ex r1 c32
       have r2 := Ty.ex r2 c32
       have r3 := Ty.fz r3 c32
       have r25 := Ty.ex r25 c32
       have r11 := Ty.ex r11 c32
       have c0 := c0.trans c32.none
       refine ⟨_, rfl, ?_⟩
       refine c_if (fun hb => ?_) (fun hb => ?_)
       ·
         replace hbe8 := Mi.ifT hb hbe8
         refine c_val (val_var rfl) ?_
         obtain ⟨x34, hx34, hbe8⟩ := Mi.bnd hbe8
         refine e_app r11 any_r hx34 fun H36 c35 r11 => ?_
         have r0 := Ty.chg r0 c35 d12
         have r1 := Ty.chg r1 c35 d13
         have r2 := Ty.chg r2 c35 d14
         have r3 := Ty.fz r3 c35
         have r25 := Ty.chg r25 c35 d30
         have c0 := c0.join c35 (fun a h => .inr (n16 a h))
         obtain rfl := Option.some.inj hbe8
         exact ⟨x34, c0, r0, r1, r2, r3, r11, d12, d13, d14, n16, hle8⟩
       ·
         replace hbe8 := Mi.ifF hb hbe8
         obtain rfl := Option.some.inj hbe8
         exact ⟨s9, c0, r0, r1, r2, r3, r11, d12, d13, d14, n16, hle8⟩
     obtain ⟨s9, c0, r0, r1, r2, r3, r11, d12, d13, d14, n16, hle8⟩ := hp
     obtain rfl := Mi.forN_end hle8
     refine w_nil ?_
     refine w_lenL r11 ?_
     refine c_val val_c ?_
     refine w_I0 ?_
     refine ⟨_, rfl, ?_⟩
     obtain rfl := Option.some.inj hb6
     exact kq _ ⟨c0, r0, r1, r2, r3⟩
   obtain ⟨c0, r0, r1, r2, r3⟩ := hj
   refine c_if (fun hb => ?_) (fun hb => ?_)
   ·
     replace hm := Mi.ifT hb hm
     refine q_ret ?_
     refine c_val val_c ?_
     obtain rfl := Option.some.inj hm
     exact hQ _ c0 
   replace hm := Mi.ifF hb hm
   refine w_fall ?_
   refine q_if (ans_t (val_isN r0 (val_var rfl))) (fun hb => ?_) (fun hb => ?_)
   ·
     replace hm := Mi.ifT hb hm
     refine q_ret ?_
     refine c_val val_c ?_
     obtain rfl := Option.some.inj hm
     exact hQ _ c0 
   replace hm := Mi.ifF hb hm
   refine w_fall ?_
   refine q_ret ?_
   refine w_op ?_
   refine w_cb ?_
   refine w_cons ?_
   refine w_lc ?_
   refine w_iRng1 ?_
   refine w_args (va_cons (val_lenF r3 (val_var rfl)) va_nil) ?_
   obtain ⟨g37, hg37, hm⟩ := Mi.bnd hm
   obtain ⟨e38, he38, hm⟩ := Mi.bnd hm
   refine kc_rng1 (K := K) (τ := yInt) hg37 (fun D40 i H' => ∃ (s39 : (List Int)), Chg ([] : List Addr) H0 H' ∧ (yOpt (yLst yInt)).rep K H' F0 v0 d0 ∧ (yLsg (yTup (sCons yStr (sCons yInt (sCons yInt (sCons yInt (sOne (yLst yInt)))))))).rep K H' F1 v1 d1 ∧ (yLst (yTup (sCons yInt (sOne yInt)))).rep K H' F2 v2 d2 ∧ (yFl yInt).rep K H' [] v3 d3 ∧ (yLst yInt).rep K H' [D40] (.ref D40) s39 ∧ Dj F0 [D40] ∧ Dj F1 [D40] ∧ Dj F2 [D40] ∧ (∀ a ∈ [D40], H0 a = none) ∧ Mi.forN (Mi.m_l_not_below_b2 d0 d3) s39 (List.drop i g37) = some e38) (fun D40 H49 np48 c47 r41 => ⟨([] : (List Int)), c0.trans c47.none, (Ty.ex r0 c47), (Ty.ex r1 c47), (Ty.ex r2 c47), (Ty.fz r3 c47), r41, Ty.nin r0 np48, Ty.nin r1 np48, Ty.nin r2 np48, one_fresh (c0.dom D40 np48), he38⟩) (fun D40 i52 x51 H53 hx50 hp => ?_) (fun D40 H' np48 hp => ?_)
   ·
     obtain ⟨s39, c0, r0, r1, r2, r3, r41, d42, d43, d44, n46, hle38⟩ := hp
     obtain ⟨_, hbe38, hle38⟩ := Mi.forN_go hle38 hx50
     unfold Mi.m_l_not_below_b2 at hbe38
     refine g_name (σ' := [some v0, some v1, some v2, some v3, some (.int d4), some (.int x51), none]) rfl ?_
     refine ⟨rfl, ?_⟩
     obtain ⟨x60, hx60, hbe38⟩ := Mi.bnd hbe38
     obtain ⟨x61, hx61, hbe38⟩ := Mi.bnd hbe38
     have r62 := opt_some r0 hx61
     obtain ⟨x63, hx63, hbe38⟩ := Mi.bnd hbe38
     refine c_ans (ans_t (val_lt (itm_FI r3 hx60 (val_var rfl) (val_var rfl)) (itm_LI r62 hx63 (val_var rfl) (val_var rfl)))) ?_
     refine c_if (fun hb => ?_) (fun hb => ?_)
     ·
       replace hbe38 := Mi.ifT hb hbe38
       refine c_val (val_var rfl) ?_
       obtain ⟨x64, hx64, hbe38⟩ := Mi.bnd hbe38
       refine e_app r41 yInt_i hx64 fun H66 c65 r41 => ?_
       have r62 := Ty.chg r62 c65 d42
       have r1 := Ty.chg r1 c65 d43
       have r2 := Ty.chg r2 c65 d44
       have r3 := Ty.fz r3 c65
       have c0 := c0.join c65 (fun a h => .inr (n46 a h))
       obtain rfl := Option.some.inj hbe38
       exact ⟨x64, c0, (opt_back hx61 (nn_lst r62) r62), r1, r2, r3, r41, d42, d43, d44, n46, hle38⟩
     ·
       replace hbe38 := Mi.ifF hb hbe38
       obtain rfl := Option.some.inj hbe38
       exact ⟨s39, c0, (opt_back hx61 (nn_lst r62) r62), r1, r2, r3, r41, d42, d43, d44, n46, hle38⟩
   obtain ⟨s39, c0, r0, r1, r2, r3, r41, d42, d43, d44, n46, hle38⟩ := hp
   obtain rfl := Mi.forN_end hle38
   refine w_nil ?_
   refine w_lenL r41 ?_
   refine c_val val_c ?_
   refine w_eqI ?_
   obtain rfl := Option.some.inj hm
   exact hQ _ c0 
abbrev s_l_lowered : Stmt := topS 63
theorem sc_l_lowered : FnScope ["_law_hand_here", "_law_schedule_here", "_law_rival", "_law_k"] ["_law_hand_here", "_law_schedule_here"] (defScope s_l_lowered) := ⟨rfl, rfl, rfl, by decide +kernel, rfl, by decide +kernel, by decide +kernel⟩
def sp_l_lowered (K : PySem.W.Frag) : Sp := fun vs H Q _ => ∃ (v0 : V) (F0 : List Addr) (d0 : (List Int)) (v1 : V) (F1 : List Addr) (d1 : (List Int)) (r : ((List Int) × (List Int))), vs = [v0, v1] ∧ (yLst yInt).rep K H F0 v0 d0 ∧ (yLst yInt).rep K H F1 v1 d1 ∧ Dj F0 F1 ∧ Mi.m_l_lowered d0 d1 = some r ∧ ∀ v H', Chg (F0) H H' → (yFl yInt).rep K H' [] v r.1 → (yLst yInt).rep K H' F0 v0 r.2 → Q v H'
theorem ok_l_lowered (B : Bi mg) (CN : Cs K mg) (D : Dfn K mg "_law_lowered" s_l_lowered) (C_l_pick : Cal P w K mg "_law_pick" ["_law_hand_here", "_law_size"] 1 (sp_l_pick K)) : Cal P w K mg "_law_lowered" ["_law_hand_here", "_law_schedule_here"] 2 (sp_l_lowered K) := by
 obtain ⟨f, fd, F, g⟩ := D.ex
 refine ⟨f, fd, g, F.kp, bindsF F (fun _ _ _ _ _ _ us hl => match us, hl with | [_, _], _ => rfl), fun base => F.ok sc_l_lowered (fun vs H Q E h => ?_) (fun cdv A outer s H0 vs Q E hr h => ?_)⟩
 · obtain ⟨v0, F0, d0, v1, F1, d1, r, rfl, r0, r1, dd0_1, hm, hQ⟩ := h; rfl
 ·
   obtain ⟨v0, F0, d0, v1, F1, d1, r, rfl, r0, r1, dd0_1, hm, hQ⟩ := h
   refine ⟨_, pss_cons (ps_set (i := 2) sc_l_lowered.nd rfl (.inl rfl) (pe_callTy (cl_list (K := K)) (by rfl) B.list (by decide +kernel) (pa_cons (pv 1) pa_nil)))
     (pss_cons (ps_set (i := 3) sc_l_lowered.nd rfl (.inl rfl) (pe_cc C_l_pick hr (pa_cons (pv 0) (pa_cons (pe_callB (cl_len (K := K)) (by rfl) B.len PySem.boot_len (pa_cons (pv 2) pa_nil)) pa_nil))))
     (pss_cons (ps_asg (pe_cc C_l_pick hr (pa_cons (pv 0) (pa_cons (pe_ix (ix_l (K := K)) (pv 2) (pv 3) (fun _ _ => rfl)) pa_nil))) (pg_sub (pv 2) (pv 3) set_list))
     (pss_cons (ps_ret (pe_frz (pv 2))) pss_nil))), ?_⟩
   have c0 : Chg (F0) H0 H0 := Chg.refl H0
   unfold Mi.m_l_lowered at hm
   refine q_asg ?_
   refine w_cb ?_
   refine w_args (va_cons (val_var rfl) va_nil) ?_
   refine w_listL r1 fun p3 H7 np6 c4 r5 => ?_
   have d8 : Dj F0 [p3] := Ty.nin r0 np6
   have d9 : Dj F1 [p3] := Ty.nin r1 np6
   have n10 : ∀ a ∈ [p3], H0 a = none := one_fresh (c0.dom p3 np6)
   have r0 := Ty.ex r0 c4
   have r1 := Ty.ex r1 c4
   have c0 := c0.trans c4.none
   refine g_name (σ' := [some v0, some v1, some (.ref p3), none]) rfl ?_
   refine q_asg ?_
   refine w_call ?_
   refine w_args (va_cons (val_var rfl) (va_cons (val_lenL r5 (val_var rfl)) va_nil)) ?_
   obtain ⟨q11, hq11, hm⟩ := Mi.bnd hm
   refine ⟨v0, F0, d0, (d1.length : Int), q11, rfl, r0, hq11, fun H13 c12 r0 => ?_⟩
   have r1 := Ty.chg r1 c12 dd0_1.symm
   have r5 := Ty.chg r5 c12 d8.symm
   have c0 := c0.join c12 (fun a h => .inl (h))
   refine g_name (σ' := [some v0, some v1, some (.ref p3), some (.int q11.1)]) rfl ?_
   refine q_asg ?_
   refine w_call ?_
   obtain ⟨x14, hx14, hm⟩ := Mi.bnd hm
   refine w_args (va_cons (val_var rfl) (va_cons (itm_LI r5 hx14 (val_var rfl) (val_var rfl)) va_nil)) ?_
   obtain ⟨q15, hq15, hm⟩ := Mi.bnd hm
   refine ⟨v0, F0, q11.2, x14, q15, rfl, r0, hq15, fun H17 c16 r0 => ?_⟩
   have r1 := Ty.chg r1 c16 dd0_1.symm
   have r5 := Ty.chg r5 c16 d8.symm
   have c0 := c0.join c16 (fun a h => .inl (h))
   refine w_gsub ?_
   refine c_val (val_var rfl) ?_
   refine c_val (val_var rfl) ?_
   obtain ⟨x18, hx18, hm⟩ := Mi.bnd hm
   refine m_set r5 yInt_i hx18 fun H20 c19 r5 => ?_
   have r0 := Ty.chg r0 c19 d8
   have r1 := Ty.chg r1 c19 d9
   have c0 := c0.join c19 (fun a h => .inr (n10 a h))
   refine q_ret ?_
   refine w_frz ?_
   refine c_val (val_var rfl) ?_
   refine e_frz r5 fun H22 c21 r23 => ?_
   have r0 := Ty.chg r0 c21 d8
   have r1 := Ty.chg r1 c21 d9
   have c0 := c0.join c21 (fun a h => .inr (n10 a h))
   obtain rfl := Option.some.inj hm
   exact hQ _ _ c0 r23 r0
abbrev s_l_told : Stmt := topS 64
theorem sc_l_told : FnScope ["_law_sailings_here", "_law_orders", "_law_kind", "_law_last", "_law_given", "_law_told_here"] ["_law_sailings_here", "_law_orders", "_law_kind", "_law_last"] (defScope s_l_told) := ⟨rfl, rfl, rfl, by decide +kernel, rfl, by decide +kernel, by decide +kernel⟩
def sp_l_told (K : PySem.W.Frag) (C_Gate : Addr) : Sp := fun vs H Q _ => ∃ (v0 : V) (F0 : List Addr) (d0 : (List (Int × Int))) (v1 : V) (F1 : List Addr) (d1 : (List (List (Int ⊕ (List Nat) ⊕ ((List Int)))))) (d2 : Int) (d3 : Int) (r : (Option ((Option (List Int)) × (List (Int × Int × Int))))), vs = [v0, v1, (.int d2), (.int d3)] ∧ (yLst (yTup (sCons yInt (sOne yInt)))).rep K H F0 v0 d0 ∧ (yLst (yTupL (ySum yInt (ySum yStr (yObj C_Gate nm_Gate ty_Gate))))).rep K H F1 v1 d1 ∧ Mi.m_l_told d0 d1 d2 d3 = some r ∧ ∀ v H' F, Chg ([]) H H' → (yOpt (yNd (yTup (sCons (yOpt (yLst yInt)) (sOne (yLst (yTup (sCons yInt (sCons yInt (sOne yInt)))))))))).rep K H' F v r → (∀ a ∈ F, H a = none) → Q v H'
theorem ok_l_told (B : Bi mg) (CN : Cs K mg) (D : Dfn K mg "_law_told" s_l_told) {C_Gate : Addr} (T_Gate : Tx K mg C_Gate "Gate" nm_Gate) (C_least_schedule : CalD P w K mg "least_schedule" s_least_schedule dv_least_schedule ["sailings", "orders", "last"] 5 (sp_least_schedule K C_Gate)) (C_l_words : Cal P w K mg "_law_words" ["_law_orders"] 1 (sp_l_words K C_Gate)) : Cal P w K mg "_law_told" ["_law_sailings_here", "_law_orders", "_law_kind", "_law_last"] 6 (sp_l_told K C_Gate) := by
 obtain ⟨f, fd, F, g⟩ := D.ex
 refine ⟨f, fd, g, F.kp, bindsF F (fun _ _ _ _ _ _ us hl => match us, hl with | [_, _, _, _], _ => rfl), fun base => F.ok sc_l_told (fun vs H Q E h => ?_) (fun cdv A outer s H0 vs Q E hr h => ?_)⟩
 · obtain ⟨v0, F0, d0, v1, F1, d1, d2, d3, r, rfl, r0, r1, hm, hQ⟩ := h; rfl
 ·
   obtain ⟨v0, F0, d0, v1, F1, d1, d2, d3, r, rfl, r0, r1, hm, hQ⟩ := h
   obtain ⟨fC_least_schedule, fdC_least_schedule, gC_least_schedule, FC_least_schedule, OC_least_schedule⟩ := C_least_schedule.ex
   obtain ⟨ds_kf_least_schedule_2_, vl_kf_least_schedule_2_, kf_least_schedule_2_⟩ := FunD.binds1 (ps := ["sailings", "orders", "last"]) FC_least_schedule 2 0 (by intro z; cases z) rfl (fun _ _ _ _ _ _ _ us its h1 h2 => match us, its, h1, h2 with | [_, _], [_], _, _ => ⟨_, rfl, rfl⟩)
   obtain ⟨mv_kf_least_schedule_2_last, kf_least_schedule_2_last⟩ := FunD.kbindsD (ps := ["sailings", "orders", "last"]) FC_least_schedule 2 ["last"] (fun us mv ws => permG [0, 1, 3] us mv ws) (by intro z; cases z) (fun r1 r2 r3 => permG_rel _ r1 r2 r3) (fun _ _ _ _ _ _ _ us mv ws h1 h2 h3 => match us, mv, ws, h1, h2, h3 with | [_, _], [_], [_], _, _, _ => ⟨_, rfl, rfl⟩)
   obtain ⟨ds_kf_least_schedule_3_, vl_kf_least_schedule_3_, kf_least_schedule_3_⟩ := FunD.binds1 (ps := ["sailings", "orders", "last"]) FC_least_schedule 3 1 (by intro z; cases z) rfl (fun _ _ _ _ _ _ _ us its h1 h2 => match us, its, h1, h2 with | [_, _, _], [_], _, _ => ⟨_, rfl, rfl⟩)
   refine ⟨_, pss_cons (ps_set (i := 4) sc_l_told.nd rfl (.inl rfl) (pe_lst (pa_cons (pe_callTy (cl_list (K := K)) (by rfl) B.list (by decide +kernel) (pa_cons (pv 0) pa_nil)) (pa_cons (pe_callTy (cl_list (K := K)) (by rfl) B.list (by decide +kernel) (pa_cons (pv 1) pa_nil)) pa_nil))))
     (pss_cons (ps_if (pt_cmpR op_eq (pv 2) pe_int (nomark _)) (pss_cons (ps_set (i := 5) sc_l_told.nd rfl (.inl rfl) (pe_call (OC_least_schedule base) (hr.mono (by decide)) (by rfl) gC_least_schedule FC_least_schedule.kp kf_least_schedule_2_ vl_kf_least_schedule_2_ pass0 (pa_cons (pe_ix (ix_l (K := K)) (pv 4) pe_int (fun _ _ => rfl)) (pa_cons (pe_ix (ix_l (K := K)) (pv 4) pe_int (fun _ _ => rfl)) pa_nil))))
     (pss_nil)) (pss_cons (ps_if (pt_cmpR op_eq (pv 2) pe_int (nomark _)) (pss_cons (ps_set (i := 5) sc_l_told.nd rfl (.inl rfl) (pe_callN (OC_least_schedule base) (hr.mono (by decide)) (by rfl) gC_least_schedule FC_least_schedule.kp kf_least_schedule_2_last pass0 (pa_cons (pe_ix (ix_l (K := K)) (pv 4) pe_int (fun _ _ => rfl)) (pa_cons (pe_ix (ix_l (K := K)) (pv 4) pe_int (fun _ _ => rfl)) pa_nil)) (pk_cons (pv 3) pk_nil)))
     (pss_nil)) (pss_cons (ps_set (i := 5) sc_l_told.nd rfl (.inl rfl) (pe_call (OC_least_schedule base) (hr.mono (by decide)) (by rfl) gC_least_schedule FC_least_schedule.kp kf_least_schedule_3_ vl_kf_least_schedule_3_ pass0 (pa_cons (pe_ix (ix_l (K := K)) (pv 4) pe_int (fun _ _ => rfl)) (pa_cons (pe_ix (ix_l (K := K)) (pv 4) pe_int (fun _ _ => rfl)) (pa_cons (pv 3) pa_nil)))))
     (pss_nil)))
     (pss_nil)))
     (pss_cons (ps_if (PW.pt (pw_or (pt_cmpR (op_ne_d hr.units) (pe_ix (ix_l (K := K)) (pv 4) pe_int (fun _ _ => rfl)) (pv 0) (nomark _)) (pw_or1 (pt_cmpR (op_ne_d hr.units) (pe_cc C_l_words hr (pa_cons (pe_ix (ix_l (K := K)) (pv 4) pe_int (fun _ _ => rfl)) pa_nil)) (pe_cc C_l_words hr (pa_cons (pv 1) pa_nil)) (nomark _))))) (pss_cons (ps_ret pe_non) pss_nil) (pss_nil))
     (pss_cons (ps_ret (pv 5)) pss_nil))), ?_⟩
   have c0 : Chg ([] : List Addr) H0 H0 := Chg.refl H0
   unfold Mi.m_l_told at hm
   refine q_asg ?_
   refine w_lst ?_
   refine w_cons ?_
   refine w_cb ?_
   refine w_args (va_cons (val_var rfl) va_nil) ?_
   refine w_listL r0 fun p5 H9 np8 c6 r7 => ?_
   have d10 : Dj F0 [p5] := Ty.nin r0 np8
   have d11 : Dj F1 [p5] := Ty.nin r1 np8
   have n12 : ∀ a ∈ [p5], H0 a = none := one_fresh (c0.dom p5 np8)
   have r0 := Ty.ex r0 c6
   have r1 := Ty.ex r1 c6
   have c0 := c0.trans c6.none
   refine w_cons ?_
   refine w_cb ?_
   refine w_args (va_cons (val_var rfl) va_nil) ?_
   refine w_listL r1 fun p13 H17 np16 c14 r15 => ?_
   have d18 : Dj F0 [p13] := Ty.nin r0 np16
   have d19 : Dj F1 [p13] := Ty.nin r1 np16
   have d20 : Dj [p5] [p13] := Ty.nin r7 np16
   have n21 : ∀ a ∈ [p13], H0 a = none := one_fresh (c0.dom p13 np16)
   have r0 := Ty.ex r0 c14
   have r1 := Ty.ex r1 c14
   have r7 := Ty.ex r7 c14
   have c0 := c0.trans c14.none
   refine w_nil ?_
   refine e_hl (K := K) (ts := (sCons (yLst (yTup (sCons yInt (sOne yInt)))) (sOne (yLst (yTupL (ySum yInt (ySum yStr (yObj C_Gate nm_Gate ty_Gate)))))))) (G := ([p5] ++ [p13])) (d := (d0, d1)) (by exact Nat.le_of_ble_eq_true rfl) ⟨_, _, _, _, rfl, rfl, r7, ⟨_, rfl, r15⟩⟩ fun p22 H26 np25 c23 r24 => ?_
   have d27 : Dj F0 (p22 :: ([p5] ++ [p13])) := Dj.consR (Ty.nin r0 np25) (Dj.symm (Dj.app (Dj.symm (d10)) (Dj.symm (d18))))
   have d28 : Dj F1 (p22 :: ([p5] ++ [p13])) := Dj.consR (Ty.nin r1 np25) (Dj.symm (Dj.app (Dj.symm (d11)) (Dj.symm (d19))))
   have n29 : ∀ a ∈ (p22 :: ([p5] ++ [p13])), H0 a = none := fresh_cons (c0.dom p22 np25) (app_fresh n12 n21)
   have r0 := Ty.ex r0 c23
   have r1 := Ty.ex r1 c23
   have r7 := Ty.ex r7 c23
   have r15 := Ty.ex r15 c23
   have c0 := c0.trans c23.none
   refine g_name (σ' := [some v0, some v1, some (.int d2), some (.int d3), some (.ref p22), none]) rfl ?_
   obtain ⟨s30, hs30, hm⟩ := Mi.bnd hm
   refine s_join (R := fun σ' H' => ∃ (v31 : V) (F33 : List Addr), σ' = [some v0, some v1, some (.int d2), some (.int d3), some (.ref p22), some v31] ∧ Chg ([] : List Addr) H0 H' ∧ (yLst (yTup (sCons yInt (sOne yInt)))).rep K H' F0 v0 d0 ∧ (yLst (yTupL (ySum yInt (ySum yStr (yObj C_Gate nm_Gate ty_Gate))))).rep K H' F1 v1 d1 ∧ (yHl (sCons (yLst (yTup (sCons yInt (sOne yInt)))) (sOne (yLst (yTupL (ySum yInt (ySum yStr (yObj C_Gate nm_Gate ty_Gate)))))))).rep K H' (p22 :: ([p5] ++ [p13])) (.ref p22) (d0, d1) ∧ (yNd (yTup (sCons (yOpt (yLst yInt)) (sOne (yLst (yTup (sCons yInt (sCons yInt (sOne yInt))))))))).rep K H' F33 v31 s30 ∧ (∀ a ∈ F33, H0 a = none) ∧ Dj F33 F0 ∧ Dj F33 F1 ∧ Dj F33 (p22 :: ([p5] ++ [p13]))) (fun nx kx => ?_) (fun σ' H' hj => ?_)
   ·
     refine s_if (ans_t (val_eqI (val_var rfl) val_c)) (fun hb => ?_) (fun hb => ?_)
     ·
       replace hs30 := Mi.ifT hb hs30
       refine q_asg ?_
       refine w_call ?_
       obtain ⟨u38, F39, r40, su41, kx42, ku43⟩ := itm_hl (n := 0) at0 r24
       have d44 : Dj F39 F0 := Dj.sub (d27.symm) su41
       have d45 : Dj F39 F1 := Dj.sub (d28.symm) su41
       have n46 : ∀ a ∈ F39, H0 a = none := fun a h => n29 a (su41 a h)
       obtain ⟨u47, F48, r49, su50, kx51, ku52⟩ := itm_hl (n := 1) (atS at1) r24
       have d53 : Dj F48 F0 := Dj.sub (d27.symm) su50
       have d54 : Dj F48 F1 := Dj.sub (d28.symm) su50
       have n55 : ∀ a ∈ F48, H0 a = none := fun a h => n29 a (su50 a h)
       refine w_args (va_cons (ku43 (val_var rfl) val_c) (va_cons (ku52 (val_var rfl) val_c) va_nil)) ?_
       obtain ⟨q56, hq56, hs30⟩ := Mi.bnd hs30
       refine ⟨u38, F39, (d0, d1).1, u47, F48, (d0, d1).2, (48 : Int), q56, rfl, r40, r49, hq56, fun v59 H58 F61 c57 r60 fr62  => ?_⟩
       have d63 : Dj F0 F61 := Ty.fresh r0 fr62
       have d64 : Dj F1 F61 := Ty.fresh r1 fr62
       have d65 : Dj (p22 :: ([p5] ++ [p13])) F61 := Ty.fresh r24 fr62
       have n66 : ∀ a ∈ F61, H0 a = none := fun a h => c0.dom a (fr62 a h)
       have r0 := Ty.ex r0 c57
       have r1 := Ty.ex r1 c57
       have r24 := Ty.ex r24 c57
       have c0 := c0.trans c57.none
       refine g_name (σ' := [some v0, some v1, some (.int d2), some (.int d3), some (.ref p22), some v59]) rfl ?_
       refine w_nextJ ?_
       obtain rfl := Option.some.inj hs30
       exact kx _ _ ⟨v59, F61, rfl, c0, r0, r1, r24, r60, n66, d63.symm, d64.symm, d65.symm⟩
     ·
       replace hs30 := Mi.ifF hb hs30
       obtain ⟨s67, hs67, hs30⟩ := Mi.bnd hs30
       refine s_join (R := fun σ' H' => ∃ (v68 : V) (F70 : List Addr), σ' = [some v0, some v1, some (.int d2), some (.int d3), some (.ref p22), some v68] ∧ Chg ([] : List Addr) H0 H' ∧ (yLst (yTup (sCons yInt (sOne yInt)))).rep K H' F0 v0 d0 ∧ (yLst (yTupL (ySum yInt (ySum yStr (yObj C_Gate nm_Gate ty_Gate))))).rep K H' F1 v1 d1 ∧ (yHl (sCons (yLst (yTup (sCons yInt (sOne yInt)))) (sOne (yLst (yTupL (ySum yInt (ySum yStr (yObj C_Gate nm_Gate ty_Gate)))))))).rep K H' (p22 :: ([p5] ++ [p13])) (.ref p22) (d0, d1) ∧ (yNd (yTup (sCons (yOpt (yLst yInt)) (sOne (yLst (yTup (sCons yInt (sCons yInt (sOne yInt))))))))).rep K H' F70 v68 s67 ∧ (∀ a ∈ F70, H0 a = none) ∧ Dj F70 F0 ∧ Dj F70 F1 ∧ Dj F70 (p22 :: ([p5] ++ [p13]))) (fun nx kx => ?_) (fun σ' H' hj => ?_)
       ·
         refine s_if (ans_t (val_eqI (val_var rfl) val_c)) (fun hb => ?_) (fun hb => ?_)
         ·
           replace hs67 := Mi.ifT hb hs67
           refine q_asg ?_
           refine w_callN ?_
           obtain ⟨u75, F76, r77, su78, kx79, ku80⟩ := itm_hl (n := 0) at0 r24
           have d81 : Dj F76 F0 := Dj.sub (d27.symm) su78
           have d82 : Dj F76 F1 := Dj.sub (d28.symm) su78
           have n83 : ∀ a ∈ F76, H0 a = none := fun a h => n29 a (su78 a h)
           obtain ⟨u84, F85, r86, su87, kx88, ku89⟩ := itm_hl (n := 1) (atS at1) r24
           have d90 : Dj F85 F0 := Dj.sub (d27.symm) su87
           have d91 : Dj F85 F1 := Dj.sub (d28.symm) su87
           have n92 : ∀ a ∈ F85, H0 a = none := fun a h => n29 a (su87 a h)
           refine w_args (va_cons (ku80 (val_var rfl) val_c) (va_cons (ku89 (val_var rfl) val_c) va_nil)) ?_
           refine w_args (va_cons (val_var rfl) va_nil) ?_
           refine ⟨rfl, rfl, ?_⟩
           obtain ⟨q93, hq93, hs67⟩ := Mi.bnd hs67
           refine ⟨u75, F76, (d0, d1).1, u84, F85, (d0, d1).2, d3, q93, rfl, r77, r86, hq93, fun v96 H95 F98 c94 r97 fr99  => ?_⟩
           have d100 : Dj F0 F98 := Ty.fresh r0 fr99
           have d101 : Dj F1 F98 := Ty.fresh r1 fr99
           have d102 : Dj (p22 :: ([p5] ++ [p13])) F98 := Ty.fresh r24 fr99
           have n103 : ∀ a ∈ F98, H0 a = none := fun a h => c0.dom a (fr99 a h)
           have r0 := Ty.ex r0 c94
           have r1 := Ty.ex r1 c94
           have r24 := Ty.ex r24 c94
           have c0 := c0.trans c94.none
           refine g_name (σ' := [some v0, some v1, some (.int d2), some (.int d3), some (.ref p22), some v96]) rfl ?_
           refine w_nextJ ?_
           obtain rfl := Option.some.inj hs67
           exact kx _ _ ⟨v96, F98, rfl, c0, r0, r1, r24, r97, n103, d100.symm, d101.symm, d102.symm⟩
         ·
           replace hs67 := Mi.ifF hb hs67
           refine q_asg ?_
           refine w_call ?_
           obtain ⟨u104, F105, r106, su107, kx108, ku109⟩ := itm_hl (n := 0) at0 r24
           have d110 : Dj F105 F0 := Dj.sub (d27.symm) su107
           have d111 : Dj F105 F1 := Dj.sub (d28.symm) su107
           have n112 : ∀ a ∈ F105, H0 a = none := fun a h => n29 a (su107 a h)
           obtain ⟨u113, F114, r115, su116, kx117, ku118⟩ := itm_hl (n := 1) (atS at1) r24
           have d119 : Dj F114 F0 := Dj.sub (d27.symm) su116
           have d120 : Dj F114 F1 := Dj.sub (d28.symm) su116
           have n121 : ∀ a ∈ F114, H0 a = none := fun a h => n29 a (su116 a h)
           refine w_args (va_cons (ku109 (val_var rfl) val_c) (va_cons (ku118 (val_var rfl) val_c) (va_cons (val_var rfl) va_nil))) ?_
           obtain ⟨q122, hq122, hs67⟩ := Mi.bnd hs67
           refine ⟨u104, F105, (d0, d1).1, u113, F114, (d0, d1).2, d3, q122, rfl, r106, r115, hq122, fun v125 H124 F127 c123 r126 fr128  => ?_⟩
           have d129 : Dj F0 F127 := Ty.fresh r0 fr128
           have d130 : Dj F1 F127 := Ty.fresh r1 fr128
           have d131 : Dj (p22 :: ([p5] ++ [p13])) F127 := Ty.fresh r24 fr128
           have n132 : ∀ a ∈ F127, H0 a = none := fun a h => c0.dom a (fr128 a h)
           have r0 := Ty.ex r0 c123
           have r1 := Ty.ex r1 c123
           have r24 := Ty.ex r24 c123
           have c0 := c0.trans c123.none
           refine g_name (σ' := [some v0, some v1, some (.int d2), some (.int d3), some (.ref p22), some v125]) rfl ?_
           refine w_nextJ ?_
           obtain rfl := Option.some.inj hs67
           exact kx _ _ ⟨v125, F127, rfl, c0, r0, r1, r24, r126, n132, d129.symm, d130.symm, d131.symm⟩
       obtain ⟨v68, F70, rfl, c0, r0, r1, r24, r69, n71, d72, d73, d74⟩ := hj
       refine w_nextJ ?_
       obtain rfl := Option.some.inj hs30
       exact kx _ _ ⟨v68, F70, rfl, c0, r0, r1, r24, r69, n71, d72, d73, d74⟩
   obtain ⟨v31, F33, rfl, c0, r0, r1, r24, r32, n34, d35, d36, d37⟩ := hj
   refine q_ifS ?_
   obtain ⟨b133, hb133, hm⟩ := Mi.bnd hm
   refine j_tt b133 (R := fun H' => Chg ([] : List Addr) H0 H' ∧ (yLst (yTup (sCons yInt (sOne yInt)))).rep K H' F0 v0 d0 ∧ (yLst (yTupL (ySum yInt (ySum yStr (yObj C_Gate nm_Gate ty_Gate))))).rep K H' F1 v1 d1 ∧ (yHl (sCons (yLst (yTup (sCons yInt (sOne yInt)))) (sOne (yLst (yTupL (ySum yInt (ySum yStr (yObj C_Gate nm_Gate ty_Gate)))))))).rep K H' (p22 :: ([p5] ++ [p13])) (.ref p22) (d0, d1) ∧ (yNd (yTup (sCons (yOpt (yLst yInt)) (sOne (yLst (yTup (sCons yInt (sCons yInt (sOne yInt))))))))).rep K H' F33 v31 s30) (fun Q' kq => ?_) (fun H' hj => ?_)
   ·
     refine w_or ?_
     refine w_test ?_
     refine w_op ?_
     obtain ⟨u134, F135, r136, su137, kx138, ku139⟩ := itm_hl (n := 0) at0 r24
     have d140 : Dj F135 F0 := Dj.sub (d27.symm) su137
     have d141 : Dj F135 F1 := Dj.sub (d28.symm) su137
     have d142 : Dj F135 F33 := Dj.sub (d37.symm) su137
     have n143 : ∀ a ∈ F135, H0 a = none := fun a h => n29 a (su137 a h)
     refine c_val (ku139 (val_var rfl) val_c) ?_
     refine c_val (val_var rfl) ?_
     refine w_neD (τ := (yLst (yTup (sCons yInt (sOne yInt))))) (dat_lst (dat_tup (sat_cons dat_int (sat_one dat_int)))) r136 r0 ?_
     refine ⟨_, rfl, ?_⟩
     refine c_if (fun hb => ?_) (fun hb => ?_)
     ·
       replace hb133 := Mi.ifT hb hb133
       obtain rfl := Option.some.inj hb133
       exact kq _ ⟨c0, r0, r1, r24, r32⟩
     replace hb133 := Mi.ifF hb hb133
     refine w_test ?_
     refine w_op ?_
     refine w_call ?_
     obtain ⟨u144, F145, r146, su147, kx148, ku149⟩ := itm_hl (n := 1) (atS at1) r24
     have d150 : Dj F145 F0 := Dj.sub (d27.symm) su147
     have d151 : Dj F145 F1 := Dj.sub (d28.symm) su147
     have d152 : Dj F145 F33 := Dj.sub (d37.symm) su147
     have n153 : ∀ a ∈ F145, H0 a = none := fun a h => n29 a (su147 a h)
     refine w_args (va_cons (ku149 (val_var rfl) val_c) va_nil) ?_
     obtain ⟨q154, hq154, hb133⟩ := Mi.bnd hb133
     refine ⟨u144, F145, (d0, d1).2, q154, rfl, r146, hq154, fun v157 H156 F159 c155 r158 fr160  => ?_⟩
     have d161 : Dj F0 F159 := Ty.fresh r0 fr160
     have d162 : Dj F1 F159 := Ty.fresh r1 fr160
     have d163 : Dj (p22 :: ([p5] ++ [p13])) F159 := Ty.fresh r24 fr160
     have d164 : Dj F33 F159 := Ty.fresh r32 fr160
     have n165 : ∀ a ∈ F159, H0 a = none := fun a h => c0.dom a (fr160 a h)
     have r0 := Ty.ex r0 c155
     have r1 := Ty.ex r1 c155
     have r24 := Ty.ex r24 c155
     have r32 := Ty.ex r32 c155
     have c0 := c0.trans c155.none
     refine w_call ?_
     refine w_args (va_cons (val_var rfl) va_nil) ?_
     obtain ⟨q166, hq166, hb133⟩ := Mi.bnd hb133
     refine ⟨v1, F1, d1, q166, rfl, r1, hq166, fun v169 H168 F171 c167 r170 fr172  => ?_⟩
     have d173 : Dj F0 F171 := Ty.fresh r0 fr172
     have d174 : Dj F1 F171 := Ty.fresh r1 fr172
     have d175 : Dj (p22 :: ([p5] ++ [p13])) F171 := Ty.fresh r24 fr172
     have d176 : Dj F33 F171 := Ty.fresh r32 fr172
     have d177 : Dj F159 F171 := Ty.fresh r158 fr172
     have n178 : ∀ a ∈ F171, H0 a = none := fun a h => c0.dom a (fr172 a h)
     have r0 := Ty.ex r0 c167
     have r1 := Ty.ex r1 c167
     have r24 := Ty.ex r24 c167
     have r32 := Ty.ex r32 c167
     have r158 := Ty.ex r158 c167
     have c0 := c0.trans c167.none
     obtain ⟨z181, hz181, hb133⟩ := Mi.bnd hb133
     refine w_neO (τ := (yLst (yTup (sCons yStr (sOne yInt))))) (dao_lst (dao_tup (sao_cons dao_str (sao_one (Dat.o dat_int))))) r158 r170 hz181 ?_
     refine ⟨_, rfl, ?_⟩
     obtain rfl := Option.some.inj hb133
     exact kq _ ⟨c0, r0, r1, r24, r32⟩
   obtain ⟨c0, r0, r1, r24, r32⟩ := hj
   refine c_if (fun hb => ?_) (fun hb => ?_)
   ·
     replace hm := Mi.ifT hb hm
     refine q_ret ?_
     refine c_val val_c ?_
     obtain rfl := Option.some.inj hm
     exact hQ _ _ _ c0 opt_n nil_fresh 
   replace hm := Mi.ifF hb hm
   refine w_fall ?_
   refine q_ret ?_
   refine c_val (val_var rfl) ?_
   obtain rfl := Option.some.inj hm
   exact hQ _ _ _ c0 (opt_i (nn_ndt r32) r32) n34 
abbrev s_l_rivals_hold : Stmt := topS 65
theorem sc_l_rivals_hold : FnScope ["_law_hand_here", "_law_least", "_law_plains_here", "_law_sailings_here", "_law_last", "_law_rivals", "_law_lowered_here", "_law_rival"] ["_law_hand_here", "_law_least", "_law_plains_here", "_law_sailings_here", "_law_last", "_law_rivals"] (defScope s_l_rivals_hold) := ⟨rfl, rfl, rfl, by decide +kernel, rfl, by decide +kernel, by decide +kernel⟩
def sp_l_rivals_hold (K : PySem.W.Frag) : Sp := fun vs H Q _ => ∃ (v0 : V) (F0 : List Addr) (d0 : (List Int)) (v1 : V) (F1 : List Addr) (d1 : (Option (List Int))) (v2 : V) (F2 : List Addr) (d2 : (List ((List Nat) × Int × Int × Int × (List Int)))) (v3 : V) (F3 : List Addr) (d3 : (List (Int × Int))) (d4 : Int) (v5 : V) (F5 : List Addr) (d5 : (List (List Int))) (r : (Bool × (List Int))), vs = [v0, v1, v2, v3, (.int d4), v5] ∧ (yLst yInt).rep K H F0 v0 d0 ∧ (yOpt (yLst yInt)).rep K H F1 v1 d1 ∧ (yLsg (yTup (sCons yStr (sCons yInt (sCons yInt (sCons yInt (sOne (yLst yInt)))))))).rep K H F2 v2 d2 ∧ (yLst (yTup (sCons yInt (sOne yInt)))).rep K H F3 v3 d3 ∧ (yLst (yFl yInt)).rep K H F5 v5 d5 ∧ Dj F0 F1 ∧ Dj F0 F2 ∧ Dj F0 F3 ∧ Dj F0 F5 ∧ Mi.m_l_rivals_hold d0 d1 d2 d3 d4 d5 = some r ∧ ∀ H', Chg (F0) H H' → (yLst yInt).rep K H' F0 v0 r.2 → Q (.bl r.1) H'
theorem ok_l_rivals_hold (B : Bi mg) (CN : Cs K mg) (D : Dfn K mg "_law_rivals_hold" s_l_rivals_hold) (C_l_not_below : Cal P w K mg "_law_not_below" ["_law_least", "_law_plains_here", "_law_sailings_here", "_law_rival", "_law_last"] 3 (sp_l_not_below K)) (C_l_lowered : Cal P w K mg "_law_lowered" ["_law_hand_here", "_law_schedule_here"] 2 (sp_l_lowered K)) : Cal P w K mg "_law_rivals_hold" ["_law_hand_here", "_law_least", "_law_plains_here", "_law_sailings_here", "_law_last", "_law_rivals"] 4 (sp_l_rivals_hold K) := by
 obtain ⟨f, fd, F, g⟩ := D.ex
 refine ⟨f, fd, g, F.kp, bindsF F (fun _ _ _ _ _ _ us hl => match us, hl with | [_, _, _, _, _, _], _ => rfl), fun base => F.ok sc_l_rivals_hold (fun vs H Q E h => ?_) (fun cdv A outer s H0 vs Q E hr h => ?_)⟩
 · obtain ⟨v0, F0, d0, v1, F1, d1, v2, F2, d2, v3, F3, d3, d4, v5, F5, d5, r, rfl, r0, r1, r2, r3, r5, dd0_1, dd0_2, dd0_3, dd0_5, hm, hQ⟩ := h; rfl
 ·
   obtain ⟨v0, F0, d0, v1, F1, d1, v2, F2, d2, v3, F3, d3, d4, v5, F5, d5, r, rfl, r0, r1, r2, r3, r5, dd0_1, dd0_2, dd0_3, dd0_5, hm, hQ⟩ := h
   refine ⟨_, pss_cons (ps_set (i := 6) sc_l_rivals_hold.nd rfl (.inl rfl) (pe_ix (ix_l (K := K)) (pv 5) pe_int (fun _ _ => rfl)))
     (pss_cons (ps_if (pt_cmpR op_notN1 (pv 1) pe_non (nomark _)) (pss_cons (ps_set (i := 6) sc_l_rivals_hold.nd rfl (.inl rfl) (pe_cc C_l_lowered hr (pa_cons (pv 0) (pa_cons (pv 1) pa_nil))))
     (pss_nil)) (pss_nil))
     (pss_cons (ps_for PassesOwn.never rfl (pi_list (pe_op op_cat (pv 5) (pe_lst (pa_cons (pv 6) pa_nil)))) (pg_name (i := 7) sc_l_rivals_hold.nd rfl (.inl rfl)) (pss_cons (ps_if (pt_not (pt_val (pe_cc C_l_not_below hr (pa_cons (pv 1) (pa_cons (pv 2) (pa_cons (pv 3) (pa_cons (pv 7) (pa_cons (pv 4) pa_nil)))))))) (pss_cons (ps_ret pe_bl) pss_nil) (pss_nil))
     (pss_nil)))
     (pss_cons (ps_ret pe_bl) pss_nil))), ?_⟩
   have c0 : Chg (F0) H0 H0 := Chg.refl H0
   unfold Mi.m_l_rivals_hold at hm
   obtain ⟨x7, hx7, hm⟩ := Mi.bnd hm
   obtain ⟨u8, r9, ku10⟩ := itm_L r5 hx7
   refine q_setE (ku10 (val_var rfl) val_c) rfl (σ' := [some v0, some v1, some v2, some v3, some (.int d4), some v5, some u8, none]) rfl ?_
   obtain ⟨s11, hs11, hm⟩ := Mi.bnd hm
   refine s_join (R := fun σ' H' => ∃ (v12 : V), σ' = [some v0, some v1, some v2, some v3, some (.int d4), some v5, some v12, none] ∧ Chg (F0) H0 H' ∧ (yLst yInt).rep K H' F0 v0 s11.1 ∧ (yOpt (yLst yInt)).rep K H' F1 v1 d1 ∧ (yLsg (yTup (sCons yStr (sCons yInt (sCons yInt (sCons yInt (sOne (yLst yInt)))))))).rep K H' F2 v2 d2 ∧ (yLst (yTup (sCons yInt (sOne yInt)))).rep K H' F3 v3 d3 ∧ (yLst (yFl yInt)).rep K H' F5 v5 d5 ∧ (yFl yInt).rep K H' [] v12 s11.2) (fun nx kx => ?_) (fun σ' H' hj => ?_)
   ·
     refine s_if (ans_t (val_notN r1 (val_var rfl))) (fun hb => ?_) (fun hb => ?_)
     ·
       replace hs11 := Mi.ifT hb hs11
       refine q_asg ?_
       refine w_call ?_
       refine w_args (va_cons (val_var rfl) (va_cons (val_var rfl) va_nil)) ?_
       obtain ⟨x14, hx14, hs11⟩ := Mi.bnd hs11
       have r15 := opt_some r1 hx14
       obtain ⟨q16, hq16, hs11⟩ := Mi.bnd hs11
       refine ⟨v0, F0, d0, v1, F1, x14, q16, rfl, r0, r15, dd0_1, hq16, fun v19 H18 c17 r20 r0 => ?_⟩
       have r15 := Ty.chg r15 c17 dd0_1.symm
       have r2 := Ty.chg r2 c17 dd0_2.symm
       have r3 := Ty.chg r3 c17 dd0_3.symm
       have r5 := Ty.chg r5 c17 dd0_5.symm
       have r9 := Ty.fz r9 c17
       have c0 := c0.join c17 (fun a h => .inl (h))
       refine g_name (σ' := [some v0, some v1, some v2, some v3, some (.int d4), some v5, some v19, none]) rfl ?_
       refine w_nextJ ?_
       obtain rfl := Option.some.inj hs11
       exact kx _ _ ⟨v19, rfl, c0, r0, (opt_back hx14 (nn_lst r15) r15), r2, r3, r5, r20⟩
     ·
       replace hs11 := Mi.ifF hb hs11
       refine w_nextJ ?_
       obtain rfl := Option.some.inj hs11
       exact kx _ _ ⟨u8, rfl, c0, r0, r1, r2, r3, r5, r9⟩
   obtain ⟨v12, rfl, c0, r0, r1, r2, r3, r5, r13⟩ := hj
   refine q_for ?_
   refine w_iList ?_
   refine w_op ?_
   refine c_val (val_var rfl) ?_
   refine w_lst ?_
   refine w_args (va_cons (val_var rfl) va_nil) ?_
   refine e_lst (K := K) (τ := (yFl yInt)) (by exact Nat.le_of_ble_eq_true rfl) (.cons r13 .nil) fun p21 H25 np24 c22 r23 => ?_
   have d26 : Dj F0 [p21] := Ty.nin r0 np24
   have d27 : Dj F1 [p21] := Ty.nin r1 np24
   have d28 : Dj F2 [p21] := Ty.nin r2 np24
   have d29 : Dj F3 [p21] := Ty.nin r3 np24
   have d30 : Dj F5 [p21] := Ty.nin r5 np24
   have n31 : ∀ a ∈ [p21], H0 a = none := one_fresh (c0.dom p21 np24)
   have r0 := Ty.ex r0 c22
   have r1 := Ty.ex r1 c22
   have r2 := Ty.ex r2 c22
   have r3 := Ty.ex r3 c22
   have r5 := Ty.ex r5 c22
   have r13 := Ty.fz r13 c22
   have c0 := c0.trans c22.none
   obtain ⟨x32, hx32, hm⟩ := Mi.bnd hm
   refine w_cat r5 r23 hx32 fun p33 H37 np36 c34 r35 => ?_
   have d38 : Dj F0 [p33] := Ty.nin r0 np36
   have d39 : Dj F1 [p33] := Ty.nin r1 np36
   have d40 : Dj F2 [p33] := Ty.nin r2 np36
   have d41 : Dj F3 [p33] := Ty.nin r3 np36
   have d42 : Dj F5 [p33] := Ty.nin r5 np36
   have d43 : Dj [p21] [p33] := Ty.nin r23 np36
   have n44 : ∀ a ∈ [p33], H0 a = none := one_fresh (c0.dom p33 np36)
   have r0 := Ty.ex r0 c34
   have r1 := Ty.ex r1 c34
   have r2 := Ty.ex r2 c34
   have r3 := Ty.ex r3 c34
   have r5 := Ty.ex r5 c34
   have r13 := Ty.fz r13 c34
   have r23 := Ty.ex r23 c34
   have c0 := c0.trans c34.none
   obtain ⟨e45, he45, hm⟩ := Mi.bnd hm
   refine l_lst r35 (fun i σ' H' => ∃ (s46 : Unit) (y47 : Option V), σ' = [some v0, some v1, some v2, some v3, some (.int d4), some v5, some v12, y47] ∧ Chg (F0) H0 H' ∧ (yLst yInt).rep K H' F0 v0 s11.1 ∧ (yOpt (yLst yInt)).rep K H' F1 v1 d1 ∧ (yLsg (yTup (sCons yStr (sCons yInt (sCons yInt (sCons yInt (sOne (yLst yInt)))))))).rep K H' F2 v2 d2 ∧ (yLst (yTup (sCons yInt (sOne yInt)))).rep K H' F3 v3 d3 ∧ (yLst (yFl yInt)).rep K H' F5 v5 d5 ∧ (yFl yInt).rep K H' [] v12 s11.2 ∧ (yLst (yFl yInt)).rep K H' [p33] (.ref p33) x32 ∧ Mi.forR (Mi.m_l_rivals_hold_b1 d1 d2 d3 d4 s11) s46 (List.drop i x32) = some e45) ⟨(), none, rfl, c0, r0, r1, r2, r3, r5, r13, r35, he45⟩ (fun i σ' H' hp => by obtain ⟨s46, y47, rfl, c0, r0, r1, r2, r3, r5, r13, r35, _⟩ := hp; exact r35) (fun i50 x49 u51 σ' H' hx48 r52 hp => ?_) (fun σ' H' hp => ?_)
   ·
     obtain ⟨s46, y47, rfl, c0, r0, r1, r2, r3, r5, r13, r35, hle45⟩ := hp
     obtain ⟨o53, hbe45, hore45⟩ := Mi.forR_go hle45 hx48
     unfold Mi.m_l_rivals_hold_b1 at hbe45
     refine g_name (σ' := [some v0, some v1, some v2, some v3, some (.int d4), some v5, some v12, some u51]) rfl ?_
     refine q_ifS ?_
     refine w_not ?_
     refine w_B ?_
     refine w_call ?_
     refine w_args (va_cons (val_var rfl) (va_cons (val_var rfl) (va_cons (val_var rfl) (va_cons (val_var rfl) (va_cons (val_var rfl) va_nil))))) ?_
     obtain ⟨q54, hq54, hbe45⟩ := Mi.bnd hbe45
     refine ⟨v1, F1, d1, v2, F2, d2, v3, F3, d3, u51, x49, d4, q54, rfl, r1, r2, r3, r52, hq54, fun H56 c55  => ?_⟩
     have r0 := Ty.ex r0 c55
     have r1 := Ty.ex r1 c55
     have r2 := Ty.ex r2 c55
     have r3 := Ty.ex r3 c55
     have r5 := Ty.ex r5 c55
     have r13 := Ty.fz r13 c55
     have r52 := Ty.fz r52 c55
     have r35 := Ty.ex r35 c55
     have c0 := c0.trans c55.none
     refine ⟨_, rfl, ?_⟩
     refine c_if (fun hb => ?_) (fun hb => ?_)
     ·
       replace hbe45 := Mi.ifT hb hbe45
       refine q_ret ?_
       refine c_val val_c ?_
       obtain rfl := Option.some.inj hbe45
       obtain rfl := Mi.or_inl hore45
       obtain rfl := Option.some.inj (Mi.orR_inl hm)
       exact hQ _ c0 r0
     replace hbe45 := Mi.ifF hb hbe45
     refine w_fall ?_
     refine w_nextJ ?_
     obtain rfl := Option.some.inj hbe45
     replace hore45 := Mi.or_inr hore45
     exact ⟨_, (some u51), rfl, c0, r0, r1, r2, r3, r5, r13, r35, hore45⟩
   obtain ⟨s46, y47, rfl, c0, r0, r1, r2, r3, r5, r13, r35, hle45⟩ := hp
   obtain rfl := Mi.forR_end hle45
   replace hm := Mi.orR_inr hm
   refine q_ret ?_
   refine c_val val_c ?_
   obtain rfl := Option.some.inj hm
   exact hQ _ c0 r0
abbrev s_l_refused : Stmt := topS 66
theorem sc_l_refused : FnScope ["_law_sailings_here", "_law_orders", "_law_index", "e"] ["_law_sailings_here", "_law_orders", "_law_index"] (defScope s_l_refused) := ⟨rfl, rfl, rfl, by decide +kernel, rfl, by decide +kernel, by decide +kernel⟩
def sp_l_refused (K : PySem.W.Frag) (C_Gate : Addr) : Sp := fun vs H Q _ => ∃ (v0 : V) (F0 : List Addr) (d0 : (List (Int × Int))) (v1 : V) (F1 : List Addr) (d1 : (List (List (Int ⊕ (List Nat) ⊕ ((List Int)))))) (d2 : Int) (r : Bool), vs = [v0, v1, (.int d2)] ∧ (yLst (yTup (sCons yInt (sOne yInt)))).rep K H F0 v0 d0 ∧ (yLst (yTupL (ySum yInt (ySum yStr (yObj C_Gate nm_Gate ty_Gate))))).rep K H F1 v1 d1 ∧ Mi.m_l_refused d0 d1 d2 = some r ∧ ∀ H', Chg ([]) H H' → Q (.bl r) H'
theorem ok_l_refused (B : Bi mg) (CN : Cs K mg) (D : Dfn K mg "_law_refused" s_l_refused) {C_Gate : Addr} (T_Gate : Tx K mg C_Gate "Gate" nm_Gate) (C_least_schedule_x : CalDN P w K mg "least_schedule" s_least_schedule_x dv_least_schedule_x ["sailings", "orders", "last"] 5 (sp_least_schedule_x K C_Gate)) (C_l_int : Cal P w K mg "_law_int" ["_law_x"] 1 (sp_l_int K)) (H_l_int : CalH P w K mg "_law_int" ["_law_x"] 1 (sp_l_int K)) : Cal P w K mg "_law_refused" ["_law_sailings_here", "_law_orders", "_law_index"] 6 (sp_l_refused K C_Gate) := by
 obtain ⟨f, fd, F, g⟩ := D.ex
 refine ⟨f, fd, g, F.kp, bindsF F (fun _ _ _ _ _ _ us hl => match us, hl with | [_, _, _], _ => rfl), fun base => F.ok sc_l_refused (fun vs H Q E h => ?_) (fun cdv A outer s H0 vs Q E hr h => ?_)⟩
 · obtain ⟨v0, F0, d0, v1, F1, d1, d2, r, rfl, r0, r1, hm, hQ⟩ := h; rfl
 ·
   obtain ⟨v0, F0, d0, v1, F1, d1, d2, r, rfl, r0, r1, hm, hQ⟩ := h
   obtain ⟨fC_least_schedule_x, fdC_least_schedule_x, gC_least_schedule_x, FC_least_schedule_x, OC_least_schedule_x⟩ := C_least_schedule_x.ex
   obtain ⟨ds_kf_least_schedule_x_2_, vl_kf_least_schedule_x_2_, kf_least_schedule_x_2_⟩ := FunD.binds1 (ps := ["sailings", "orders", "last"]) FC_least_schedule_x 2 0 (by intro z; cases z) rfl (fun _ _ _ _ _ _ _ us its h1 h2 => match us, its, h1, h2 with | [_, _], [_], _, _ => ⟨_, rfl, rfl⟩)
   refine ⟨_, pss_cons (L2N.ps_try_as (i := 3) rfl rfl sc_l_refused.nd rfl rfl ⟨rfl, by decide, .inl CN.g_InvalidOrder⟩ take0N (fun W pn xe tk _ => pss_cons (ps_expr (pe_callSD (OC_least_schedule_x base) (hr.mono (by decide)) (by rfl) gC_least_schedule_x FC_least_schedule_x.kp kf_least_schedule_x_2_ vl_kf_least_schedule_x_2_ (fun σ => L2N.passAt tk σ) (pa_cons (pe_callTy (cl_list (K := K)) (by rfl) B.list (by decide +kernel) (pa_cons (pv 0) pa_nil)) (pa_cons (pe_callTy (cl_list (K := K)) (by rfl) B.list (by decide +kernel) (pa_cons (pv 1) pa_nil)) pa_nil)))) pss_nil) (fun ae oe cl de pn hz hf => pss_cons (ps_ret (pe_and (pe_ccH H_l_int (roomS hr) (hotc hz hf) (pa_cons (pe_xf CN.x_InvalidOrder.xf CN.np_InvalidOrder hz.zc hf (pv 3)) pa_nil)) (pe_one (pe_cmpR op_eq (pe_xf CN.x_InvalidOrder.xf CN.np_InvalidOrder hz.zc hf (pv 3)) (pv 2) (nomark _))))) pss_nil))
     (pss_cons (ps_ret pe_bl) pss_nil), ?_⟩
   have c0 : Chg ([] : List Addr) H0 H0 := Chg.refl H0
   unfold Mi.m_l_refused at hm
   refine q_try ?_
   refine q_drop ?_
   refine w_callSD ?_
   refine w_cons ?_
   refine w_cb ?_
   refine w_args (va_cons (val_var rfl) va_nil) ?_
   refine w_listL r0 fun p4 H8 np7 c5 r6 => ?_
   have d9 : Dj F0 [p4] := Ty.nin r0 np7
   have d10 : Dj F1 [p4] := Ty.nin r1 np7
   have n11 : ∀ a ∈ [p4], H0 a = none := one_fresh (c0.dom p4 np7)
   have r0 := Ty.ex r0 c5
   have r1 := Ty.ex r1 c5
   have c0 := c0.trans c5.none
   refine w_cons ?_
   refine w_cb ?_
   refine w_args (va_cons (val_var rfl) va_nil) ?_
   refine w_listL r1 fun p12 H16 np15 c13 r14 => ?_
   have d17 : Dj F0 [p12] := Ty.nin r0 np15
   have d18 : Dj F1 [p12] := Ty.nin r1 np15
   have d19 : Dj [p4] [p12] := Ty.nin r6 np15
   have n20 : ∀ a ∈ [p12], H0 a = none := one_fresh (c0.dom p12 np15)
   have r0 := Ty.ex r0 c13
   have r1 := Ty.ex r1 c13
   have r6 := Ty.ex r6 c13
   have c0 := c0.trans c13.none
   refine w_nil ?_
   obtain ⟨q21, hq21, hm⟩ := Mi.bnd hm
   refine ⟨(.ref p4), [p4], d0, (.ref p12), [p12], d1, (48 : Int), q21, rfl, r6, r14, hq21, fun y28 yh29 d30 H35 c34 nn31 => ?_, fun q32 hqv33 => fun v24 H23 F26 c22 r25 fr27  => ?_⟩
   ·
     subst yh29
     replace hm := Mi.tryL hm
     have r0 := Ty.ex r0 c34
     have r1 := Ty.ex r1 c34
     have c0 := c0.trans c34.none
     have c36 : Chg [] H35 (upd H35 d30 (.xd [(("index" : Str), (.int y28))])) := Chg.lay nn31 trivial
     have r0 := Ty.ex r0 c36
     have r1 := Ty.ex r1 c36
     have c0 := c0.trans c36.none
     have hxd : (upd H35 d30 (.xd [(("index" : Str), (.int y28))])) d30 = some (.xd [(("index" : Str), (.int y28))]) := upd_same
     refine w_exc CN.em_InvalidOrder_InvalidOrder (fun ae37 na38 => ?_)
     refine st_eq (σ' := [some v0, some v1, some (.int d2), some (.ref ae37)]) rfl ?_
     refine q_ret ?_
     obtain ⟨b39, hb39, hm⟩ := Mi.bnd hm
     refine j_te (.bl b39) (R := fun H' => Chg ([] : List Addr) H0 H' ∧ (yLst (yTup (sCons yInt (sOne yInt)))).rep K H' F0 v0 d0 ∧ (yLst (yTupL (ySum yInt (ySum yStr (yObj C_Gate nm_Gate ty_Gate))))).rep K H' F1 v1 d1) (fun Q' kq => ?_) (fun H' hj => ?_)
     ·
       refine w_andV ?_
       refine w_call ?_
       refine w_args (va_cons (val_xf_index (val_var rfl) hxd) va_nil) ?_
       obtain ⟨q40, hq40, hb39⟩ := Mi.bnd hb39
       refine Or.inl ⟨y28, q40, rfl, hq40, fun H42 c41  => ?_⟩
       have r0 := Ty.ex r0 c41
       have r1 := Ty.ex r1 c41
       have c0 := c0.trans c41.none
       have hxd := c41.keep _ _ hxd (.inl List.not_mem_nil)
       refine ⟨_, rfl, ?_⟩
       refine c_if (fun hb => ?_) (fun hb => ?_)
       rotate_left
       ·
         replace hb39 := Mi.ifF hb hb39
         obtain rfl := Option.some.inj hb39
         exact kq _ ⟨c0, r0, r1⟩
       replace hb39 := Mi.ifT hb hb39
       refine c_val (val_eqI (val_xf_index (val_var rfl) hxd) (val_var rfl)) ?_
       obtain rfl := Option.some.inj hb39
       exact kq _ ⟨c0, r0, r1⟩
     obtain ⟨c0, r0, r1⟩ := hj
     obtain rfl := Option.some.inj hm
     exact hQ _ c0 
   subst hqv33
   replace hm := Mi.tryR hm
   have r0 := Ty.ex r0 c22
   have r1 := Ty.ex r1 c22
   have c0 := c0.trans c22.none
   refine w_fall ?_
   refine q_ret ?_
   refine c_val val_c ?_
   obtain rfl := Option.some.inj hm
   exact hQ _ c0 
abbrev s_l_refused_by_base : Stmt := topS 67
theorem sc_l_refused_by_base : FnScope ["_law_sailings_here", "_law_orders", "e"] ["_law_sailings_here", "_law_orders"] (defScope s_l_refused_by_base) := ⟨rfl, rfl, rfl, by decide +kernel, rfl, by decide +kernel, by decide +kernel⟩
def sp_l_refused_by_base (K : PySem.W.Frag) (C_Gate : Addr) : Sp := fun vs H Q _ => ∃ (v0 : V) (F0 : List Addr) (d0 : (List (Int × Int))) (v1 : V) (F1 : List Addr) (d1 : (List (List (Int ⊕ (List Nat) ⊕ ((List Int)))))) (r : Bool), vs = [v0, v1] ∧ (yLst (yTup (sCons yInt (sOne yInt)))).rep K H F0 v0 d0 ∧ (yLst (yTupL (ySum yInt (ySum yStr (yObj C_Gate nm_Gate ty_Gate))))).rep K H F1 v1 d1 ∧ Mi.m_l_refused_by_base d0 d1 = some r ∧ ∀ H', Chg ([]) H H' → Q (.bl r) H'
theorem ok_l_refused_by_base (B : Bi mg) (CN : Cs K mg) (D : Dfn K mg "_law_refused_by_base" s_l_refused_by_base) {C_Gate : Addr} (T_Gate : Tx K mg C_Gate "Gate" nm_Gate) (C_least_schedule_x : CalDN P w K mg "least_schedule" s_least_schedule_x dv_least_schedule_x ["sailings", "orders", "last"] 5 (sp_least_schedule_x K C_Gate)) : Cal P w K mg "_law_refused_by_base" ["_law_sailings_here", "_law_orders"] 6 (sp_l_refused_by_base K C_Gate) := by
 obtain ⟨f, fd, F, g⟩ := D.ex
 refine ⟨f, fd, g, F.kp, bindsF F (fun _ _ _ _ _ _ us hl => match us, hl with | [_, _], _ => rfl), fun base => F.ok sc_l_refused_by_base (fun vs H Q E h => ?_) (fun cdv A outer s H0 vs Q E hr h => ?_)⟩
 · obtain ⟨v0, F0, d0, v1, F1, d1, r, rfl, r0, r1, hm, hQ⟩ := h; rfl
 ·
   obtain ⟨v0, F0, d0, v1, F1, d1, r, rfl, r0, r1, hm, hQ⟩ := h
   obtain ⟨fC_least_schedule_x, fdC_least_schedule_x, gC_least_schedule_x, FC_least_schedule_x, OC_least_schedule_x⟩ := C_least_schedule_x.ex
   obtain ⟨ds_kf_least_schedule_x_2_, vl_kf_least_schedule_x_2_, kf_least_schedule_x_2_⟩ := FunD.binds1 (ps := ["sailings", "orders", "last"]) FC_least_schedule_x 2 0 (by intro z; cases z) rfl (fun _ _ _ _ _ _ _ us its h1 h2 => match us, its, h1, h2 with | [_, _], [_], _, _ => ⟨_, rfl, rfl⟩)
   refine ⟨_, pss_cons (L2N.ps_try_as (i := 2) rfl rfl sc_l_refused_by_base.nd rfl rfl ⟨rfl, by decide, .inl CN.g_FleetError⟩ take0N (fun W pn xe tk _ => pss_cons (ps_expr (pe_callSD (OC_least_schedule_x base) (hr.mono (by decide)) (by rfl) gC_least_schedule_x FC_least_schedule_x.kp kf_least_schedule_x_2_ vl_kf_least_schedule_x_2_ (fun σ => L2N.passAt tk σ) (pa_cons (pe_callTy (cl_list (K := K)) (by rfl) B.list (by decide +kernel) (pa_cons (pv 0) pa_nil)) (pa_cons (pe_callTy (cl_list (K := K)) (by rfl) B.list (by decide +kernel) (pa_cons (pv 1) pa_nil)) pa_nil)))) pss_nil) (fun ae oe cl de pn hz hf => pss_cons (ps_if (PW.pt (pw_or (pt_not (pt_val (pe_callB (call_isEd CN.x_InvalidOrder.xi hz.zc hf) (by rfl) B.isinstance (by decide +kernel) (pa_cons (pv 2) (pa_cons (pe_glob (v := .ref (He.ga K "InvalidOrder")) (by rfl) CN.g_InvalidOrder rfl) pa_nil))))) (pw_or1 (pt_not (pt_val (pe_callB (call_isEd CN.x_InvalidOrder.xi hz.zc hf) (by rfl) B.isinstance (by decide +kernel) (pa_cons (pv 2) (pa_cons (pe_bltn (v := .ty "ValueError") (by rfl) CN.n_ValueError (by decide +kernel) rfl) pa_nil)))))))) (pss_cons (ps_ret pe_bl) pss_nil) (pss_nil))
     (pss_cons (ps_if (pt_val (pe_callB (call_isEt CN.x_InvalidOrder.xi hz.zc hf) (by rfl) B.isinstance (by decide +kernel) (pa_cons (pv 2) (pa_cons (pe_tup (pa_cons (pe_glob (v := .ref (He.ga K "InvalidChart")) (by rfl) CN.g_InvalidChart rfl) (pa_cons (pe_glob (v := .ref (He.ga K "InvalidShip")) (by rfl) CN.g_InvalidShip rfl) (pa_cons (pe_glob (v := .ref (He.ga K "InvalidLight")) (by rfl) CN.g_InvalidLight rfl) (pa_cons (pe_glob (v := .ref (He.ga K "InvalidReport")) (by rfl) CN.g_InvalidReport rfl) (pa_cons (pe_glob (v := .ref (He.ga K "InvalidLetter")) (by rfl) CN.g_InvalidLetter rfl) (pa_cons (pe_glob (v := .ref (He.ga K "InvalidSetting")) (by rfl) CN.g_InvalidSetting rfl) pa_nil))))))) pa_nil)))) (pss_cons ps_never pss_nil) pss_nil)
     (pss_cons (ps_if (pt_val (pe_callB (call_isEt CN.x_InvalidOrder.xi hz.zc hf) (by rfl) B.isinstance (by decide +kernel) (pa_cons (pv 2) (pa_cons (pe_tup (pa_cons (pe_glob (v := .ref (He.ga K "InvalidReceipt")) (by rfl) CN.g_InvalidReceipt rfl) (pa_cons (pe_glob (v := .ref (He.ga K "NotInPlay")) (by rfl) CN.g_NotInPlay rfl) (pa_cons (pe_glob (v := .ref (He.ga K "NoDriving")) (by rfl) CN.g_NoDriving rfl) (pa_cons (pe_glob (v := .ref (He.ga K "NoSuchNumber")) (by rfl) CN.g_NoSuchNumber rfl) (pa_cons (pe_glob (v := .ref (He.ga K "DoesNotFit")) (by rfl) CN.g_DoesNotFit rfl) (pa_cons (pe_glob (v := .ref (He.ga K "NoRun")) (by rfl) CN.g_NoRun rfl) (pa_cons (pe_glob (v := .ref (He.ga K "NoWorld")) (by rfl) CN.g_NoWorld rfl) pa_nil)))))))) pa_nil)))) (pss_cons ps_never pss_nil) pss_nil)
     (pss_cons (ps_if (pt_val (pe_callB (call_isEt CN.x_InvalidOrder.xi hz.zc hf) (by rfl) B.isinstance (by decide +kernel) (pa_cons (pv 2) (pa_cons (pe_tup (pa_cons (pe_glob (v := .ref (He.ga K "NoWay")) (by rfl) CN.g_NoWay rfl) (pa_cons (pe_glob (v := .ref (He.ga K "InvalidStay")) (by rfl) CN.g_InvalidStay rfl) (pa_cons (pe_glob (v := .ref (He.ga K "BadText")) (by rfl) CN.g_BadText rfl) (pa_cons (pe_glob (v := .ref (He.ga K "BadClaim")) (by rfl) CN.g_BadClaim rfl) (pa_cons (pe_glob (v := .ref (He.ga K "Contradiction")) (by rfl) CN.g_Contradiction rfl) (pa_cons (pe_glob (v := .ref (He.ga K "UnknownEntry")) (by rfl) CN.g_UnknownEntry rfl) pa_nil))))))) pa_nil)))) (pss_cons ps_never pss_nil) pss_nil)
     (pss_cons (ps_ret (pe_not (pe_callB (call_isEt CN.x_InvalidOrder.xi hz.zc hf) (by rfl) B.isinstance (by decide +kernel) (pa_cons (pv 2) (pa_cons (pe_tup (pa_cons (pe_glob (v := .ref (He.ga K "NothingToUndo")) (by rfl) CN.g_NothingToUndo rfl) (pa_cons (pe_glob (v := .ref (He.ga K "NothingToRedo")) (by rfl) CN.g_NothingToRedo rfl) pa_nil))) pa_nil))))) pss_nil))))))
     (pss_cons (ps_ret pe_bl) pss_nil), ?_⟩
   have c0 : Chg ([] : List Addr) H0 H0 := Chg.refl H0
   unfold Mi.m_l_refused_by_base at hm
   refine q_try ?_
   refine q_drop ?_
   refine w_callSD ?_
   refine w_cons ?_
   refine w_cb ?_
   refine w_args (va_cons (val_var rfl) va_nil) ?_
   refine w_listL r0 fun p3 H7 np6 c4 r5 => ?_
   have d8 : Dj F0 [p3] := Ty.nin r0 np6
   have d9 : Dj F1 [p3] := Ty.nin r1 np6
   have n10 : ∀ a ∈ [p3], H0 a = none := one_fresh (c0.dom p3 np6)
   have r0 := Ty.ex r0 c4
   have r1 := Ty.ex r1 c4
   have c0 := c0.trans c4.none
   refine w_cons ?_
   refine w_cb ?_
   refine w_args (va_cons (val_var rfl) va_nil) ?_
   refine w_listL r1 fun p11 H15 np14 c12 r13 => ?_
   have d16 : Dj F0 [p11] := Ty.nin r0 np14
   have d17 : Dj F1 [p11] := Ty.nin r1 np14
   have d18 : Dj [p3] [p11] := Ty.nin r5 np14
   have n19 : ∀ a ∈ [p11], H0 a = none := one_fresh (c0.dom p11 np14)
   have r0 := Ty.ex r0 c12
   have r1 := Ty.ex r1 c12
   have r5 := Ty.ex r5 c12
   have c0 := c0.trans c12.none
   refine w_nil ?_
   obtain ⟨q20, hq20, hm⟩ := Mi.bnd hm
   refine ⟨(.ref p3), [p3], d0, (.ref p11), [p11], d1, (48 : Int), q20, rfl, r5, r13, hq20, fun y27 yh28 d29 H34 c33 nn30 => ?_, fun q31 hqv32 => fun v23 H22 F25 c21 r24 fr26  => ?_⟩
   ·
     subst yh28
     replace hm := Mi.tryL hm
     have r0 := Ty.ex r0 c33
     have r1 := Ty.ex r1 c33
     have c0 := c0.trans c33.none
     have c35 : Chg [] H34 (upd H34 d29 (.xd [(("index" : Str), (.int y27))])) := Chg.lay nn30 trivial
     have r0 := Ty.ex r0 c35
     have r1 := Ty.ex r1 c35
     have c0 := c0.trans c35.none
     have hxd : (upd H34 d29 (.xd [(("index" : Str), (.int y27))])) d29 = some (.xd [(("index" : Str), (.int y27))]) := upd_same
     refine w_exc CN.em_InvalidOrder_FleetError (fun ae36 na37 => ?_)
     refine st_eq (σ' := [some v0, some v1, some (.ref ae36)]) rfl ?_
     refine q_if (ans_orB (ans_N (ans_B (val_isE (val_var rfl) hxd (.own _) CN.ko_InvalidOrder_InvalidOrder))) (fun _ => (ans_N (ans_B (val_isE (val_var rfl) hxd (.ty _) CN.ko_InvalidOrder_ValueError))))) (fun hb => ?_) (fun hb => ?_)
     ·
       replace hm := Mi.ifT hb hm
       refine q_ret ?_
       refine c_val val_c ?_
       obtain rfl := Option.some.inj hm
       exact hQ _ c0 
     replace hm := Mi.ifF hb hm
     refine w_fall ?_
     refine q_isT (val_var rfl) hxd (va_cons val_c (va_cons val_c (va_cons val_c (va_cons val_c (va_cons val_c (va_cons val_c va_nil)))))) (cp_cons (cp_cons (cp_cons (cp_cons (cp_cons (cp_cons .nil)))))) CN.kt_InvalidOrder_InvalidChart_6 (Nat.le_of_ble_eq_true rfl) (fun H40 c39 hxd => ?_)
     have r0 := Ty.ex r0 c39
     have r1 := Ty.ex r1 c39
     have c0 := c0.trans c39.none
     refine w_fall ?_
     refine q_isT (val_var rfl) hxd (va_cons val_c (va_cons val_c (va_cons val_c (va_cons val_c (va_cons val_c (va_cons val_c (va_cons val_c va_nil))))))) (cp_cons (cp_cons (cp_cons (cp_cons (cp_cons (cp_cons (cp_cons .nil))))))) CN.kt_InvalidOrder_InvalidReceipt_7 (Nat.le_of_ble_eq_true rfl) (fun H42 c41 hxd => ?_)
     have r0 := Ty.ex r0 c41
     have r1 := Ty.ex r1 c41
     have c0 := c0.trans c41.none
     refine w_fall ?_
     refine q_isT (val_var rfl) hxd (va_cons val_c (va_cons val_c (va_cons val_c (va_cons val_c (va_cons val_c (va_cons val_c va_nil)))))) (cp_cons (cp_cons (cp_cons (cp_cons (cp_cons (cp_cons .nil)))))) CN.kt_InvalidOrder_NoWay_6 (Nat.le_of_ble_eq_true rfl) (fun H44 c43 hxd => ?_)
     have r0 := Ty.ex r0 c43
     have r1 := Ty.ex r1 c43
     have c0 := c0.trans c43.none
     refine w_fall ?_
     refine q_ret ?_
     refine w_notV ?_
     refine w_isT (val_var rfl) hxd (va_cons val_c (va_cons val_c va_nil)) (cp_cons (cp_cons .nil)) CN.kt_InvalidOrder_NothingToUndo_2 (Nat.le_of_ble_eq_true rfl) (fun H46 c45 hxd => ?_)
     have r0 := Ty.ex r0 c45
     have r1 := Ty.ex r1 c45
     have c0 := c0.trans c45.none
     refine ⟨_, rfl, ?_⟩
     obtain rfl := Option.some.inj hm
     exact hQ _ c0 
   subst hqv32
   replace hm := Mi.tryR hm
   have r0 := Ty.ex r0 c21
   have r1 := Ty.ex r1 c21
   have c0 := c0.trans c21.none
   refine w_fall ?_
   refine q_ret ?_
   refine c_val val_c ?_
   obtain rfl := Option.some.inj hm
   exact hQ _ c0 
abbrev s_l_nothing_holds : Stmt := topS 68
theorem sc_l_nothing_holds : FnScope ["_law_told_here"] [] (defScope s_l_nothing_holds) := ⟨rfl, rfl, rfl, by decide +kernel, rfl, by decide +kernel, by decide +kernel⟩
def sp_l_nothing_holds (K : PySem.W.Frag) : Sp := fun vs H Q _ => ∃  (r : Bool), vs = [] ∧ Mi.m_l_nothing_holds  = some r ∧ ∀ H', Chg ([]) H H' → Q (.bl r) H'
theorem ok_l_nothing_holds (B : Bi mg) (CN : Cs K mg) (D : Dfn K mg "_law_nothing_holds" s_l_nothing_holds) {C_Gate : Addr} (T_Gate : Tx K mg C_Gate "Gate" nm_Gate) (C_least_schedule : CalD P w K mg "least_schedule" s_least_schedule dv_least_schedule ["sailings", "orders", "last"] 5 (sp_least_schedule K C_Gate)) (C_l_refused : Cal P w K mg "_law_refused" ["_law_sailings_here", "_law_orders", "_law_index"] 6 (sp_l_refused K C_Gate)) : Cal P w K mg "_law_nothing_holds" [] 7 (sp_l_nothing_holds K) := by
 obtain ⟨f, fd, F, g⟩ := D.ex
 refine ⟨f, fd, g, F.kp, bindsF F (fun _ _ _ _ _ _ us hl => match us, hl with | [], _ => rfl), fun base => F.ok sc_l_nothing_holds (fun vs H Q E h => ?_) (fun cdv A outer s H0 vs Q E hr h => ?_)⟩
 · obtain ⟨r, rfl, hm, hQ⟩ := h; rfl
 ·
   obtain ⟨r, rfl, hm, hQ⟩ := h
   obtain ⟨fC_least_schedule, fdC_least_schedule, gC_least_schedule, FC_least_schedule, OC_least_schedule⟩ := C_least_schedule.ex
   obtain ⟨ds_kf_least_schedule_2_, vl_kf_least_schedule_2_, kf_least_schedule_2_⟩ := FunD.binds1 (ps := ["sailings", "orders", "last"]) FC_least_schedule 2 0 (by intro z; cases z) rfl (fun _ _ _ _ _ _ _ us its h1 h2 => match us, its, h1, h2 with | [_, _], [_], _, _ => ⟨_, rfl, rfl⟩)
   refine ⟨_, pss_cons (ps_set (i := 0) sc_l_nothing_holds.nd rfl (.inl rfl) (pe_call (OC_least_schedule base) (hr.mono (by decide)) (by rfl) gC_least_schedule FC_least_schedule.kp kf_least_schedule_2_ vl_kf_least_schedule_2_ pass0 (pa_cons (pe_lst pa_nil) (pa_cons (pe_lst pa_nil) pa_nil))))
     (pss_cons (ps_if (PW.pt (pw_or (pt_not (pt_val (pe_callB (cl_isi (K := K)) (by rfl) B.isinstance (by decide +kernel) (pa_cons (pv 0) (pa_cons (pe_bltn (v := .ty "tuple") (by rfl) B.tuple (by decide +kernel) rfl) pa_nil))))) (pw_or (pt_cmpR op_ne (pe_callB (cl_len (K := K)) (by rfl) B.len PySem.boot_len (pa_cons (pv 0) pa_nil)) pe_int (nomark _)) (pw_or (pt_cmpR (op_ne_d hr.units) (pe_ix (ix_t (K := K)) (pv 0) pe_int (fun _ _ => rfl)) (pe_lst pa_nil) (nomark _)) (pw_or1 (pt_cmpR (op_ne_d hr.units) (pe_ix (ix_t (K := K)) (pv 0) pe_int (fun _ _ => rfl)) (pe_lst pa_nil) (nomark _))))))) (pss_cons (ps_ret pe_bl) pss_nil) (pss_nil))
     (pss_cons (ps_ret (pe_and (pe_callB (cl_isi (K := K)) (by rfl) B.isinstance (by decide +kernel) (pa_cons (pe_ix (ix_t (K := K)) (pv 0) pe_int (fun _ _ => rfl)) (pa_cons (pe_bltn (v := .ty "list") (by rfl) B.list (by decide +kernel) rfl) pa_nil))) (pe_and (pe_callB (cl_isi (K := K)) (by rfl) B.isinstance (by decide +kernel) (pa_cons (pe_ix (ix_t (K := K)) (pv 0) pe_int (fun _ _ => rfl)) (pa_cons (pe_bltn (v := .ty "list") (by rfl) B.list (by decide +kernel) rfl) pa_nil))) (pe_one (pe_cc C_l_refused hr (pa_cons (pe_lst pa_nil) (pa_cons (pe_lst (pa_cons (pe_tup (pa_cons pe_str (pa_cons pe_int (pa_cons pe_int pa_nil)))) pa_nil)) (pa_cons pe_int pa_nil)))))))) pss_nil)), ?_⟩
   have c0 : Chg ([] : List Addr) H0 H0 := Chg.refl H0
   unfold Mi.m_l_nothing_holds at hm
   refine q_asg ?_
   refine w_call ?_
   refine w_cons ?_
   refine w_lst ?_
   refine w_args va_nil ?_
   refine e_lst (K := K) (τ := (yTup (sCons yInt (sOne yInt)))) (by exact Nat.le_of_ble_eq_true rfl) .nil fun p1 H5 np4 c2 r3 => ?_
   have n6 : ∀ a ∈ [p1], H0 a = none := one_fresh (c0.dom p1 np4)
   have c0 := c0.trans c2.none
   refine w_cons ?_
   refine w_lst ?_
   refine w_args va_nil ?_
   refine e_lst (K := K) (τ := (yTupL (ySum yInt (ySum yStr (yObj C_Gate nm_Gate ty_Gate))))) (by exact Nat.le_of_ble_eq_true rfl) .nil fun p7 H11 np10 c8 r9 => ?_
   have d12 : Dj [p1] [p7] := Ty.nin r3 np10
   have n13 : ∀ a ∈ [p7], H0 a = none := one_fresh (c0.dom p7 np10)
   have r3 := Ty.ex r3 c8
   have c0 := c0.trans c8.none
   refine w_nil ?_
   obtain ⟨q14, hq14, hm⟩ := Mi.bnd hm
   refine ⟨(.ref p1), [p1], ([] : (List (Int × Int))), (.ref p7), [p7], ([] : (List (List (Int ⊕ (List Nat) ⊕ ((List Int)))))), (48 : Int), q14, rfl, r3, r9, hq14, fun v17 H16 F19 c15 r18 fr20  => ?_⟩
   have n21 : ∀ a ∈ F19, H0 a = none := fun a h => c0.dom a (fr20 a h)
   have c0 := c0.trans c15.none
   refine g_name (σ' := [some v17]) rfl ?_
   refine q_ifS ?_
   obtain ⟨b22, hb22, hm⟩ := Mi.bnd hm
   refine j_tt b22 (R := fun H' => Chg ([] : List Addr) H0 H' ∧ (yNd (yTup (sCons (yOpt (yLst yInt)) (sOne (yLst (yTup (sCons yInt (sCons yInt (sOne yInt))))))))).rep K H' F19 v17 q14) (fun Q' kq => ?_) (fun H' hj => ?_)
   ·
     refine w_or ?_
     refine c_ans (ans_N (ans_B (val_isi (val_var rfl) (ty_tup r18.1) (n := "tuple") (m := "tuple") (b := true) (by decide +kernel)))) ?_
     refine c_if (fun hb => ?_) (fun hb => ?_)
     ·
       replace hb22 := Mi.ifT hb hb22
       obtain rfl := Option.some.inj hb22
       exact kq _ ⟨c0, r18⟩
     replace hb22 := Mi.ifF hb hb22
     refine w_or ?_
     refine c_ans (ans_t (val_neI (val_lenU (n := 2) (lens_cons lens_one) r18.1 (val_var rfl)) val_c)) ?_
     refine c_if (fun hb => ?_) (fun hb => ?_)
     ·
       replace hb22 := Mi.ifT hb hb22
       obtain rfl := Option.some.inj hb22
       exact kq _ ⟨c0, r18⟩
     replace hb22 := Mi.ifF hb hb22
     refine w_or ?_
     refine w_test ?_
     refine w_op ?_
     obtain ⟨u23, u24, F25, F26, r27, r28, r29, s30, s31, d32⟩ := nd_t2 r18
     have n33 : ∀ a ∈ F25, H0 a = none := fun a h => n21 a (s30 a h)
     have n34 : ∀ a ∈ F26, H0 a = none := fun a h => n21 a (s31 a h)
     refine c_val (val_rt (n := 0) r27 rfl (val_var rfl) val_c) ?_
     refine w_lst ?_
     refine w_args va_nil ?_
     refine e_lst (K := K) (τ := yInt) (by exact Nat.le_of_ble_eq_true rfl) .nil fun p35 H39 np38 c36 r37 => ?_
     have d40 : Dj F19 [p35] := Ty.nin r18 np38
     have d41 : Dj F25 [p35] := Ty.nin r28 np38
     have d42 : Dj F26 [p35] := Ty.nin r29 np38
     have n43 : ∀ a ∈ [p35], H0 a = none := one_fresh (c0.dom p35 np38)
     have r18 := Ty.ex r18 c36
     have r28 := Ty.ex r28 c36
     have r29 := Ty.ex r29 c36
     have r27 := Ty.fz r27 c36
     have c0 := c0.trans c36.none
     obtain ⟨x44, hx44, hb22⟩ := Mi.bnd hb22
     have r45 := opt_some r28 hx44
     refine w_neD (τ := (yLst yInt)) (dat_lst dat_int) r45 r37 ?_
     refine ⟨_, rfl, ?_⟩
     refine c_if (fun hb => ?_) (fun hb => ?_)
     ·
       replace hb22 := Mi.ifT hb hb22
       obtain rfl := Option.some.inj hb22
       exact kq _ ⟨c0, r18⟩
     replace hb22 := Mi.ifF hb hb22
     refine w_test ?_
     refine w_op ?_
     refine c_val (val_rt (n := 1) r27 rfl (val_var rfl) val_c) ?_
     refine w_lst ?_
     refine w_args va_nil ?_
     refine e_lst (K := K) (τ := (yTup (sCons yInt (sCons yInt (sOne yInt))))) (by exact Nat.le_of_ble_eq_true rfl) .nil fun p46 H50 np49 c47 r48 => ?_
     have d51 : Dj F19 [p46] := Ty.nin r18 np49
     have d52 : Dj F26 [p46] := Ty.nin r29 np49
     have d53 : Dj F25 [p46] := Ty.nin r28 np49
     have n54 : ∀ a ∈ [p46], H0 a = none := one_fresh (c0.dom p46 np49)
     have r18 := Ty.ex r18 c47
     have r29 := Ty.ex r29 c47
     have r28 := Ty.ex r28 c47
     have r27 := Ty.fz r27 c47
     have c0 := c0.trans c47.none
     refine w_neD (τ := (yLst (yTup (sCons yInt (sCons yInt (sOne yInt)))))) (dat_lst (dat_tup (sat_cons dat_int (sat_cons dat_int (sat_one dat_int))))) r29 r48 ?_
     refine ⟨_, rfl, ?_⟩
     obtain rfl := Option.some.inj hb22
     exact kq _ ⟨c0, r18⟩
   obtain ⟨c0, r18⟩ := hj
   refine c_if (fun hb => ?_) (fun hb => ?_)
   ·
     replace hm := Mi.ifT hb hm
     refine q_ret ?_
     refine c_val val_c ?_
     obtain rfl := Option.some.inj hm
     exact hQ _ c0 
   replace hm := Mi.ifF hb hm
   refine w_fall ?_
   refine q_ret ?_
   obtain ⟨b55, hb55, hm⟩ := Mi.bnd hm
   refine j_te (.bl b55) (R := fun H' => Chg ([] : List Addr) H0 H' ∧ (yNd (yTup (sCons (yOpt (yLst yInt)) (sOne (yLst (yTup (sCons yInt (sCons yInt (sOne yInt))))))))).rep K H' F19 v17 q14) (fun Q' kq => ?_) (fun H' hj => ?_)
   ·
     refine w_andV ?_
     obtain ⟨u56, u57, F58, F59, r60, r61, r62, s63, s64, d65⟩ := nd_t2 r18
     have n66 : ∀ a ∈ F58, H0 a = none := fun a h => n21 a (s63 a h)
     have n67 : ∀ a ∈ F59, H0 a = none := fun a h => n21 a (s64 a h)
     refine c_val (val_isiO (n := "list") (m := "list") (b := true) ty_lst r61 (val_rt (n := 0) r60 rfl (val_var rfl) val_c) (by decide +kernel) (by decide +kernel)) ?_
     refine ⟨_, rfl, ?_⟩
     refine c_if (fun hb => ?_) (fun hb => ?_)
     rotate_left
     ·
       replace hb55 := Mi.ifF hb hb55
       obtain rfl := Option.some.inj hb55
       exact kq _ ⟨c0, r18⟩
     replace hb55 := Mi.ifT hb hb55
     refine w_andV ?_
     refine c_val (val_isi (val_rt (n := 1) r60 rfl (val_var rfl) val_c) (ty_lst r62) (n := "list") (m := "list") (b := true) (by decide +kernel)) ?_
     refine ⟨_, rfl, ?_⟩
     refine c_if (fun hb => ?_) (fun hb => ?_)
     rotate_left
     ·
       replace hb55 := Mi.ifF hb hb55
       obtain rfl := Option.some.inj hb55
       exact kq _ ⟨c0, r18⟩
     replace hb55 := Mi.ifT hb hb55
     refine w_call ?_
     refine w_cons ?_
     refine w_lst ?_
     refine w_args va_nil ?_
     refine e_lst (K := K) (τ := (yTup (sCons yInt (sOne yInt)))) (by exact Nat.le_of_ble_eq_true rfl) .nil fun p68 H72 np71 c69 r70 => ?_
     have d73 : Dj F19 [p68] := Ty.nin r18 np71
     have d74 : Dj F58 [p68] := Ty.nin r61 np71
     have d75 : Dj F59 [p68] := Ty.nin r62 np71
     have n76 : ∀ a ∈ [p68], H0 a = none := one_fresh (c0.dom p68 np71)
     have r18 := Ty.ex r18 c69
     have r61 := Ty.ex r61 c69
     have r62 := Ty.ex r62 c69
     have r60 := Ty.fz r60 c69
     have c0 := c0.trans c69.none
     refine w_cons ?_
     refine w_lst ?_
     refine w_cons ?_
     refine w_tup ?_
     refine w_args (va_cons (val_cS (a := ([98, 121] : List Nat)) (by decide +kernel)) (va_cons val_c (va_cons val_c va_nil))) ?_
     refine e_tupl (K := K) (τ := (ySum yInt (ySum yStr (yObj C_Gate nm_Gate ty_Gate)))) (xs := ([(.inr (.inl ([98, 121] : List Nat))), (.inl (0 : Int)), (.inl (5 : Int))] : (List (Int ⊕ (List Nat) ⊕ ((List Int)))))) (by exact Nat.le_of_ble_eq_true rfl) (.cons (sum_r (sum_l yStr_i)) (.cons (sum_l yInt_i) (.cons (sum_l yInt_i) .nil))) fun p77 H81 np80 c78 r79 => ?_
     have r18 := Ty.ex r18 c78
     have r70 := Ty.ex r70 c78
     have r61 := Ty.ex r61 c78
     have r62 := Ty.ex r62 c78
     have r60 := Ty.fz r60 c78
     have c0 := c0.trans c78.none
     refine w_nil ?_
     refine e_lst (K := K) (τ := (yTupL (ySum yInt (ySum yStr (yObj C_Gate nm_Gate ty_Gate))))) (by exact Nat.le_of_ble_eq_true rfl) (.cons r79 .nil) fun p82 H86 np85 c83 r84 => ?_
     have d87 : Dj F19 [p82] := Ty.nin r18 np85
     have d88 : Dj [p68] [p82] := Ty.nin r70 np85
     have d89 : Dj F58 [p82] := Ty.nin r61 np85
     have d90 : Dj F59 [p82] := Ty.nin r62 np85
     have n91 : ∀ a ∈ [p82], H0 a = none := one_fresh (c0.dom p82 np85)
     have r18 := Ty.ex r18 c83
     have r70 := Ty.ex r70 c83
     have r79 := Ty.fz r79 c83
     have r61 := Ty.ex r61 c83
     have r62 := Ty.ex r62 c83
     have r60 := Ty.fz r60 c83
     have c0 := c0.trans c83.none
     refine w_cons ?_
     refine c_val val_c ?_
     refine w_nil ?_
     obtain ⟨q92, hq92, hb55⟩ := Mi.bnd hb55
     refine ⟨(.ref p68), [p68], ([] : (List (Int × Int))), (.ref p82), [p82], [([(.inr (.inl ([98, 121] : List Nat))), (.inl (0 : Int)), (.inl (5 : Int))] : (List (Int ⊕ (List Nat) ⊕ ((List Int)))))], (0 : Int), q92, rfl, r70, r84, hq92, fun H94 c93  => ?_⟩
     have r18 := Ty.ex r18 c93
     have r61 := Ty.ex r61 c93
     have r62 := Ty.ex r62 c93
     have r60 := Ty.fz r60 c93
     have c0 := c0.trans c93.none
     obtain rfl := Option.some.inj hb55
     exact kq _ ⟨c0, r18⟩
   obtain ⟨c0, r18⟩ := hj
   obtain rfl := Option.some.inj hm
   exact hQ _ c0 
abbrev s_law : Stmt := topS 69
abbrev N_law : List Str := ["_law_script", "_law_sailings_here", "_law_schedule_here", "_law_plains_here", "_law_orders", "_law_lows", "_law_rows", "_law_tight", "_law_hand_here", "_law_kind", "_law_last", "_law_moved", "_law_spoils", "_law_places_here", "_law_spoilt_here", "_law_pair", "_law_told_here", "_law_plain_here", "_law_span", "_law_low", "_law_hour"]
theorem sc_law : FnScope ["_law_script", "_law_sailings_here", "_law_schedule_here", "_law_plains_here", "_law_orders", "_law_lows", "_law_rows", "_law_tight", "_law_hand_here", "_law_kind", "_law_last", "_law_moved", "_law_spoils", "_law_places_here", "_law_spoilt_here", "_law_pair", "_law_told_here", "_law_plain_here", "_law_span", "_law_low", "_law_hour"] ["_law_script"] (defScope s_law) := ⟨rfl, rfl, rfl, by decide +kernel, rfl, by decide +kernel, by decide +kernel⟩
def sp_law (K : PySem.W.Frag) : Sp := fun vs H Q _ => ∃ (v0 : V) (d0 : (List Int)) (r : Bool), vs = [v0] ∧ yScr.rep K H [] v0 d0 ∧ Mi.m_law d0 = some r ∧ ∀ H', Chg ([]) H H' → Q (.bl r) H'
theorem ok_law (B : Bi mg) (CN : Cs K mg) (D : Dfn K mg "law" s_law) {C_Gate : Addr} (T_Gate : Tx K mg C_Gate "Gate" nm_Gate) (C_l_hand : Cal P w K mg "_law_hand" ["_law_script", "_law_k"] 1 (sp_l_hand K)) (C_l_pick : Cal P w K mg "_law_pick" ["_law_hand_here", "_law_size"] 1 (sp_l_pick K)) (C_l_sailings : Cal P w K mg "_law_sailings" ["_law_hand_here"] 2 (sp_l_sailings K)) (C_l_schedule : Cal P w K mg "_law_schedule" ["_law_hand_here", "_law_count"] 2 (sp_l_schedule K)) (C_l_legs : Cal P w K mg "_law_legs" ["_law_hand_here", "_law_sailings_here"] 2 (sp_l_legs K)) (C_l_plains : Cal P w K mg "_law_plains" ["_law_hand_here", "_law_spans", "_law_schedule_here"] 4 (sp_l_plains K)) (C_l_order : Cal P w K mg "_law_order" ["_law_plain_here"] 3 (sp_l_order K C_Gate)) (C_l_gates_stay : Cal P w K mg "_law_gates_stay" ["_law_orders", "_law_plains_here"] 1 (sp_l_gates_stay K C_Gate)) (C_l_places : Cal P w K mg "_law_places" ["_law_hand_here", "_law_count"] 2 (sp_l_places K)) (C_l_spoil : Cal P w K mg "_law_spoil" ["_law_hand_here", "_law_orders", "_law_places_here", "_law_count"] 3 (sp_l_spoil K C_Gate)) (C_l_answer_holds : Cal P w K mg "_law_answer_holds" ["_law_told_here", "_law_plains_here", "_law_sailings_here", "_law_last", "_law_rows"] 4 (sp_l_answer_holds K)) (C_l_told : Cal P w K mg "_law_told" ["_law_sailings_here", "_law_orders", "_law_kind", "_law_last"] 6 (sp_l_told K C_Gate)) (C_l_rivals_hold : Cal P w K mg "_law_rivals_hold" ["_law_hand_here", "_law_least", "_law_plains_here", "_law_sailings_here", "_law_last", "_law_rivals"] 4 (sp_l_rivals_hold K)) (C_l_refused : Cal P w K mg "_law_refused" ["_law_sailings_here", "_law_orders", "_law_index"] 6 (sp_l_refused K C_Gate)) (C_l_refused_by_base : Cal P w K mg "_law_refused_by_base" ["_law_sailings_here", "_law_orders"] 6 (sp_l_refused_by_base K C_Gate)) (C_l_nothing_holds : Cal P w K mg "_law_nothing_holds" [] 7 (sp_l_nothing_holds K)) : Cal P w K mg "law" ["_law_script"] 8 (sp_law K) := by
 obtain ⟨f, fd, F, g⟩ := D.ex
 refine ⟨f, fd, g, F.kp, bindsF F (fun _ _ _ _ _ _ us hl => match us, hl with | [_], _ => rfl), fun base => F.ok sc_law (fun vs H Q E h => ?_) (fun cdv A outer s H0 vs Q E hr h => ?_)⟩
 · obtain ⟨v0, d0, r, rfl, r0, hm, hQ⟩ := h; rfl
 ·
   obtain ⟨v0, d0, r, rfl, r0, hm, hQ⟩ := h
   refine ⟨_, pss_cons (ps_set (i := 1) sc_law.nd rfl (.inl rfl) (pe_cc C_l_sailings hr (pa_cons (pe_cc C_l_hand hr (pa_cons (pv 0) (pa_cons pe_int pa_nil))) pa_nil)))
     (pss_cons (ps_set (i := 2) sc_law.nd rfl (.inl rfl) (pe_frz (pe_cc C_l_schedule hr (pa_cons (pe_cc C_l_hand hr (pa_cons (pv 0) (pa_cons pe_int pa_nil))) (pa_cons (pe_callB (cl_len (K := K)) (by rfl) B.len PySem.boot_len (pa_cons (pv 1) pa_nil)) pa_nil)))))
     (pss_cons (ps_set (i := 3) sc_law.nd rfl (.inl rfl) (pe_cc C_l_plains hr (pa_cons (pe_cc C_l_hand hr (pa_cons (pv 0) (pa_cons pe_int pa_nil))) (pa_cons (pv 1) (pa_cons (pv 2) pa_nil)))))
     (pss_cons (ps_setLc (i := 4) (own := [("_law_plain_here", 17)]) rfl sc_law.nd rfl rfl (sw_true rfl rfl rfl (by decide +kernel)) (pi_list (pv 3)) (blkOk_by (own := [("_law_plain_here", 17)]) (N := N_law) (sc := defScope s_law) (by decide +kernel)) (fun _ _ _ _ _ => (pg_name (i := 17) sc_law.nd rfl (.inl rfl))) (fun _ _ _ _ _ => pts_nil) (fun _ _ _ _ _ => (pe_cc C_l_order hr (pa_cons (pv 17) pa_nil))))
     (pss_cons (ps_post (ps_setLc (i := 5) (own := [("_law_span", 18)]) rfl sc_law.nd rfl rfl (sw_true rfl rfl rfl (by decide +kernel)) (pi_list (pv 1)) (blkOk_by (own := [("_law_span", 18)]) (N := N_law) (sc := defScope s_law) (by decide +kernel)) (fun _ _ _ _ _ => (pg_name (i := 18) sc_law.nd rfl (.inl rfl))) (fun _ _ _ _ _ => pts_nil) (fun _ _ _ _ _ => (pe_ix (ix_t (K := K)) (pv 18) pe_int (fun _ _ => rfl)))))
     (pss_cons (ps_set (i := 6) sc_law.nd rfl (.inl rfl) (pe_lst (pa_cons (pe_frz (pe_cc C_l_legs hr (pa_cons (pe_cc C_l_hand hr (pa_cons (pv 0) (pa_cons pe_int pa_nil))) (pa_cons (pv 1) pa_nil)))) (pa_cons (pv 5) (pa_cons (pe_frz (pe_lc (own := [("_law_span", 18)]) rfl sc_law.nd (pi_list (pv 1)) (blkOk_by (own := [("_law_span", 18)]) (N := N_law) (sc := defScope s_law) (by decide +kernel)) (fun _ _ _ _ _ => (pg_name (i := 18) sc_law.nd rfl (.inl rfl))) (fun _ _ _ _ _ => pts_nil) (fun _ _ _ _ _ => (pe_ix (ix_t (K := K)) (pv 18) pe_int (fun _ _ => rfl))))) pa_nil)))))
     (pss_cons (ps_setLc (i := 7) (own := [("_law_low", 19)]) rfl sc_law.nd rfl rfl (sw_true rfl rfl rfl (by decide +kernel)) (pi_list (pv 5)) (blkOk_by (own := [("_law_low", 19)]) (N := N_law) (sc := defScope s_law) (by decide +kernel)) (fun _ _ _ _ _ => (pg_name (i := 19) sc_law.nd rfl (.inl rfl))) (fun _ _ _ _ _ => pts_nil) (fun _ _ _ _ _ => (pe_tup (pa_cons (pv 19) (pa_cons (pv 19) pa_nil)))))
     (pss_cons (ps_set (i := 8) sc_law.nd rfl (.inr rfl) (pe_cc C_l_hand hr (pa_cons (pv 0) (pa_cons pe_int pa_nil))))
     (pss_cons (ps_set (i := 9) sc_law.nd rfl (.inl rfl) (pe_cc C_l_pick hr (pa_cons (pv 8) (pa_cons pe_int pa_nil))))
     (pss_cons (ps_set (i := 10) sc_law.nd rfl (.inl rfl) (pe_ix (ix_l (K := K)) (pe_lst (pa_cons pe_int (pa_cons (pe_callB (cl_min2 rfl) (by rfl) B.min (by decide +kernel) (pa_cons pe_int (pa_cons (pe_op op_add (pe_callB (cl_maxL (K := K) rfl) (by rfl) B.max (by decide +kernel) (pa_cons (pv 2) pa_nil)) (pe_cc C_l_pick hr (pa_cons (pv 8) (pa_cons pe_int pa_nil)))) pa_nil))) (pa_cons (pe_cc C_l_pick hr (pa_cons (pv 8) (pa_cons pe_int pa_nil))) (pa_cons (pe_cc C_l_pick hr (pa_cons (pv 8) (pa_cons pe_int pa_nil))) pa_nil))))) (pv 9) (fun _ _ => rfl)))
     (pss_cons (ps_post (ps_setLc (i := 11) (own := [("_law_hour", 20)]) rfl sc_law.nd rfl rfl (sw_true rfl rfl rfl (by decide +kernel)) (pi_list (pv 2)) (blkOk_by (own := [("_law_hour", 20)]) (N := N_law) (sc := defScope s_law) (by decide +kernel)) (fun _ _ _ _ _ => (pg_name (i := 20) sc_law.nd rfl (.inl rfl))) (fun _ _ _ _ _ => pts_nil) (fun _ _ _ _ _ => (pe_callB (cl_max2 rfl) (by rfl) B.max (by decide +kernel) (pa_cons pe_int (pa_cons (pe_op op_sub (pe_op op_add (pv 20) (pe_cc C_l_pick hr (pa_cons (pv 8) (pa_cons pe_int pa_nil)))) pe_int) pa_nil))))))
     (pss_cons (ps_set (i := 12) sc_law.nd rfl (.inl rfl) (pe_cc C_l_hand hr (pa_cons (pv 0) (pa_cons pe_int pa_nil))))
     (pss_cons (ps_set (i := 13) sc_law.nd rfl (.inl rfl) (pe_cc C_l_places hr (pa_cons (pv 12) (pa_cons (pe_callB (cl_len (K := K)) (by rfl) B.len PySem.boot_len (pa_cons (pv 4) pa_nil)) pa_nil))))
     (pss_cons (ps_set (i := 14) sc_law.nd rfl (.inl rfl) (pe_cc C_l_spoil hr (pa_cons (pv 12) (pa_cons (pv 4) (pa_cons (pv 13) (pa_cons (pe_callB (cl_len (K := K)) (by rfl) B.len PySem.boot_len (pa_cons (pv 1) pa_nil)) pa_nil))))))
     (pss_cons (ps_for PassesOwn.never rfl (pi_list (pe_lst (pa_cons (pe_tup (pa_cons (pv 1) (pa_cons (pv 6) pa_nil))) (pa_cons (pe_tup (pa_cons (pv 7) (pa_cons (pe_lst (pa_cons (pv 5) pa_nil)) pa_nil))) (pa_cons (pe_tup (pa_cons (pv 1) (pa_cons (pv 6) pa_nil))) pa_nil))))) (pg_name (i := 15) sc_law.nd rfl (.inl rfl)) (pss_cons (ps_if (pt_cmpR op_gt (pe_callB (cl_len (K := K)) (by rfl) B.len PySem.boot_len (pa_cons (pv 13) pa_nil)) pe_int (nomark _)) (pss_cons (ps_if (PW.pt (pw_or (pt_not (pt_val (pe_cc C_l_refused hr (pa_cons (pv 1) (pa_cons (pv 14) (pa_cons (pe_callB (cl_minL (K := K) rfl) (by rfl) B.min (by decide +kernel) (pa_cons (pv 13) pa_nil)) pa_nil)))))) (pw_or1 (pt_not (pt_val (pe_cc C_l_refused_by_base hr (pa_cons (pv 1) (pa_cons (pv 14) pa_nil)))))))) (pss_cons (ps_ret pe_bl) pss_nil) (pss_nil))
     (pss_nil)) (pss_nil))
     (pss_cons (ps_set (i := 16) sc_law.nd rfl (.inl rfl) (pe_cc C_l_told hr (pa_cons (pe_ix (ix_t (K := K)) (pv 15) pe_int (fun _ _ => rfl)) (pa_cons (pv 4) (pa_cons (pv 9) (pa_cons (pv 10) pa_nil))))))
     (pss_cons (ps_if (pt_not (pt_val (pe_cc C_l_answer_holds hr (pa_cons (pv 16) (pa_cons (pv 3) (pa_cons (pe_ix (ix_t (K := K)) (pv 15) pe_int (fun _ _ => rfl)) (pa_cons (pv 10) (pa_cons (pe_ix (ix_t (K := K)) (pv 15) pe_int (fun _ _ => rfl)) pa_nil)))))))) (pss_cons (ps_ret pe_bl) pss_nil) (pss_nil))
     (pss_cons (ps_if (pt_not (pt_val (pe_cc C_l_rivals_hold hr (pa_cons (pv 8) (pa_cons (pe_ix (ix_t (K := K)) (pv 16) pe_int (fun _ _ => rfl)) (pa_cons (pv 3) (pa_cons (pe_ix (ix_t (K := K)) (pv 15) pe_int (fun _ _ => rfl)) (pa_cons (pv 10) (pa_cons (pe_lst (pa_cons (pv 2) (pa_cons (pv 11) pa_nil))) pa_nil))))))))) (pss_cons (ps_ret pe_bl) pss_nil) (pss_nil))
     (pss_cons (ps_expr (pe_bm PySem.F.plainAttrs_list PySem.F.slot_list_append PySem.F.type_list_append mt_append (pe_ix (ix_t (K := K)) (pv 16) pe_int (fun _ _ => rfl)) (pa_cons pe_int pa_nil)))
     (pss_cons (ps_if (pt_cmpR op_notN1 (pe_ix (ix_t (K := K)) (pv 16) pe_int (fun _ _ => rfl)) pe_non (nomark _)) (pss_cons (ps_expr (pe_bm PySem.F.plainAttrs_list PySem.F.slot_list_append PySem.F.type_list_append mt_append (pe_ix (ix_t (K := K)) (pv 16) pe_int (fun _ _ => rfl)) (pa_cons pe_int pa_nil)))
     (pss_nil)) (pss_nil))
     (pss_nil))))))))
     (pss_cons (ps_ret (pe_and (pe_cc C_l_gates_stay hr (pa_cons (pv 4) (pa_cons (pv 3) pa_nil))) (pe_one (pe_cc0 C_l_nothing_holds hr)))) pss_nil))))))))))))))), ?_⟩
   have c0 : Chg ([] : List Addr) H0 H0 := Chg.refl H0
   unfold Mi.m_law at hm
   refine q_asg ?_
   refine w_call ?_
   refine w_cons ?_
   refine w_call ?_
   refine w_args (va_cons (val_var rfl) (va_cons val_c va_nil)) ?_
   obtain ⟨q2, hq2, hm⟩ := Mi.bnd hm
   refine ⟨v0, d0, (0 : Int), q2, rfl, r0, hq2, fun v5 H4 F7 c3 r6 fr8  => ?_⟩
   have n9 : ∀ a ∈ F7, H0 a = none := fun a h => c0.dom a (fr8 a h)
   have r0 := Ty.fz r0 c3
   have c0 := c0.trans c3.none
   refine w_nil ?_
   obtain ⟨q10, hq10, hm⟩ := Mi.bnd hm
   have r6_old := r6
   refine ⟨v5, F7, q2, q10, rfl, r6, hq10, fun v13 H12 F15 c11 r14 fr16 r6 => ?_⟩
   have n17 : ∀ a ∈ F15, H0 a = none := fun a h => c0.dom a (fr16 a h)
   have r0 := Ty.fz r0 c11
   have c0 := c0.join c11 (fun a h => .inr (n9 a h))
   refine g_name (σ' := [some v0, some v13, none, none, none, none, none, none, none, none, none, none, none, none, none, none, none, none, none, none, none]) rfl ?_
   refine q_asg ?_
   refine w_frz ?_
   refine w_call ?_
   refine w_cons ?_
   refine w_call ?_
   refine w_args (va_cons (val_var rfl) (va_cons val_c va_nil)) ?_
   obtain ⟨q18, hq18, hm⟩ := Mi.bnd hm
   refine ⟨v0, d0, (1 : Int), q18, rfl, r0, hq18, fun v21 H20 F23 c19 r22 fr24  => ?_⟩
   have d25 : Dj F15 F23 := Ty.fresh r14 fr24
   have n26 : ∀ a ∈ F23, H0 a = none := fun a h => c0.dom a (fr24 a h)
   have r0 := Ty.fz r0 c19
   have r14 := Ty.ex r14 c19
   have c0 := c0.trans c19.none
   refine w_cons ?_
   refine c_val (val_lenL r14 (val_var rfl)) ?_
   refine w_nil ?_
   obtain ⟨q27, hq27, hm⟩ := Mi.bnd hm
   have r22_old := r22
   refine ⟨v21, F23, q18, (q10.1.length : Int), q27, rfl, r22, hq27, fun v30 H29 F32 c28 r31 fr33 r22 => ?_⟩
   have d34 : Dj F15 F32 := Ty.fresh r14 fr33
   have n35 : ∀ a ∈ F32, H0 a = none := fun a h => c0.dom a (fr33 a h)
   have r0 := Ty.fz r0 c28
   have r14 := Ty.chg r14 c28 d25
   have c0 := c0.join c28 (fun a h => .inr (n26 a h))
   refine e_frz r31 fun H37 c36 r38 => ?_
   have r0 := Ty.fz r0 c36
   have r14 := Ty.chg r14 c36 d34
   have c0 := c0.join c36 (fun a h => .inr (n35 a h))
   refine g_name (σ' := [some v0, some v13, some v30, none, none, none, none, none, none, none, none, none, none, none, none, none, none, none, none, none, none]) rfl ?_
   refine q_asg ?_
   refine w_call ?_
   refine w_cons ?_
   refine w_call ?_
   refine w_args (va_cons (val_var rfl) (va_cons val_c va_nil)) ?_
   obtain ⟨q39, hq39, hm⟩ := Mi.bnd hm
   refine ⟨v0, d0, (3 : Int), q39, rfl, r0, hq39, fun v42 H41 F44 c40 r43 fr45  => ?_⟩
   have d46 : Dj F15 F44 := Ty.fresh r14 fr45
   have n47 : ∀ a ∈ F44, H0 a = none := fun a h => c0.dom a (fr45 a h)
   have r0 := Ty.fz r0 c40
   have r14 := Ty.ex r14 c40
   have r38 := Ty.fz r38 c40
   have c0 := c0.trans c40.none
   refine w_cons ?_
   refine c_val (val_var rfl) ?_
   refine w_cons ?_
   refine c_val (val_var rfl) ?_
   refine w_nil ?_
   obtain ⟨q48, hq48, hm⟩ := Mi.bnd hm
   have r43_old := r43
   refine ⟨v42, F44, q39, v13, F15, q10.1, v30, q27.1, q48, rfl, r43, r14, r38, d46.symm, hq48, fun v51 H50 F53 c49 r52 fr54 r43 => ?_⟩
   have d55 : Dj F15 F53 := Ty.fresh r14 fr54
   have n56 : ∀ a ∈ F53, H0 a = none := fun a h => c0.dom a (fr54 a h)
   have r0 := Ty.fz r0 c49
   have r14 := Ty.chg r14 c49 d46
   have r38 := Ty.fz r38 c49
   have c0 := c0.join c49 (fun a h => .inr (n47 a h))
   refine g_name (σ' := [some v0, some v13, some v30, some v51, none, none, none, none, none, none, none, none, none, none, none, none, none, none, none, none, none]) rfl ?_
   refine q_asg ?_
   refine w_lc ?_
   refine w_iList ?_
   refine c_val (val_var rfl) ?_
   obtain ⟨e57, he57, hm⟩ := Mi.bnd hm
   refine kc_lsg (K := K) (τ := (yTupL (ySum yInt (ySum yStr (yObj C_Gate nm_Gate ty_Gate))))) r52 (fun D59 i H' => ∃ (s58 : (List (List (Int ⊕ (List Nat) ⊕ ((List Int)))))), Chg ([] : List Addr) H0 H' ∧ yScr.rep K H' [] v0 d0 ∧ (yLst (yTup (sCons yInt (sOne yInt)))).rep K H' F15 v13 q10.1 ∧ (yFl yInt).rep K H' [] v30 q27.1 ∧ (yLsg (yTup (sCons yStr (sCons yInt (sCons yInt (sCons yInt (sOne (yLst yInt)))))))).rep K H' F53 v51 q48.1 ∧ (yLst (yTupL (ySum yInt (ySum yStr (yObj C_Gate nm_Gate ty_Gate))))).rep K H' [D59] (.ref D59) s58 ∧ Dj F15 [D59] ∧ Dj F53 [D59] ∧ (∀ a ∈ [D59], H0 a = none) ∧ Mi.forN (Mi.m_law_b1) s58 (List.drop i q48.1) = some e57) (fun D59 H67 np66 c65 r60 => ⟨([] : (List (List (Int ⊕ (List Nat) ⊕ ((List Int)))))), c0.trans c65.none, (Ty.fz r0 c65), (Ty.ex r14 c65), (Ty.fz r38 c65), (Ty.ex r52 c65), r60, Ty.nin r14 np66, Ty.nin r52 np66, one_fresh (c0.dom D59 np66), he57⟩) (fun D59 i H' hp => by obtain ⟨s58, c0, r0, r14, r38, r52, r60, d61, d62, n64, _⟩ := hp; exact r52) (fun D59 i70 x69 u72 F74 H71 hx68 r73 su75 hp => ?_) (fun D59 H' np66 hp => ?_)
   ·
     obtain ⟨s58, c0, r0, r14, r38, r52, r60, d61, d62, n64, hle57⟩ := hp
     obtain ⟨_, hbe57, hle57⟩ := Mi.forN_go hle57 hx68
     unfold Mi.m_law_b1 at hbe57
     have d78 : Dj F74 F15 := Dj.sub (d55.symm) su75
     have d79 : Dj F74 [D59] := Dj.sub (d62) su75
     have n80 : ∀ a ∈ F74, H0 a = none := fun a h => n56 a (su75 a h)
     refine g_name (σ' := [some v0, some v13, some v30, some v51, none, none, none, none, none, none, none, none, none, none, none, none, none, some u72, none, none, none]) rfl ?_
     refine ⟨rfl, ?_⟩
     refine w_yes ?_
     refine iteT ?_
     refine w_call ?_
     refine w_args (va_cons (val_var rfl) va_nil) ?_
     obtain ⟨q81, hq81, hbe57⟩ := Mi.bnd hbe57
     refine ⟨u72, F74, x69, q81, rfl, r73, hq81, fun v84 H83 c82 r85  => ?_⟩
     have r0 := Ty.fz r0 c82
     have r14 := Ty.ex r14 c82
     have r38 := Ty.fz r38 c82
     have r52 := Ty.ex r52 c82
     have r73 := Ty.ex r73 c82
     have r60 := Ty.ex r60 c82
     have c0 := c0.trans c82.none
     obtain ⟨x86, hx86, hbe57⟩ := Mi.bnd hbe57
     refine e_app r60 r85 hx86 fun H88 c87 r60 => ?_
     have r0 := Ty.fz r0 c87
     have r14 := Ty.chg r14 c87 d61
     have r38 := Ty.fz r38 c87
     have r52 := Ty.chg r52 c87 d62
     have r73 := Ty.chg r73 c87 d79
     have c0 := c0.join c87 (fun a h => .inr (n64 a h))
     obtain rfl := Option.some.inj hbe57
     exact ⟨x86, c0, r0, r14, r38, r52, r60, d61, d62, n64, hle57⟩
   obtain ⟨s58, c0, r0, r14, r38, r52, r60, d61, d62, n64, hle57⟩ := hp
   obtain rfl := Mi.forN_end hle57
   refine g_name (σ' := [some v0, some v13, some v30, some v51, some (.ref D59), none, none, none, none, none, none, none, none, none, none, none, none, none, none, none, none]) rfl ?_
   refine q_post ?_
   refine q_asg ?_
   refine w_lc ?_
   refine w_iList ?_
   refine c_val (val_var rfl) ?_
   obtain ⟨e89, he89, hm⟩ := Mi.bnd hm
   refine kc_lst (K := K) (τ := yInt) r14 (fun D91 i H' => ∃ (s90 : (List Int)), Chg ([] : List Addr) H0 H' ∧ yScr.rep K H' [] v0 d0 ∧ (yLst (yTup (sCons yInt (sOne yInt)))).rep K H' F15 v13 q10.1 ∧ (yFl yInt).rep K H' [] v30 q27.1 ∧ (yLsg (yTup (sCons yStr (sCons yInt (sCons yInt (sCons yInt (sOne (yLst yInt)))))))).rep K H' F53 v51 q48.1 ∧ (yLst (yTupL (ySum yInt (ySum yStr (yObj C_Gate nm_Gate ty_Gate))))).rep K H' [D59] (.ref D59) s58 ∧ (yLst yInt).rep K H' [D91] (.ref D91) s90 ∧ Dj F15 [D91] ∧ Dj F53 [D91] ∧ Dj [D59] [D91] ∧ (∀ a ∈ [D91], H0 a = none) ∧ Mi.forN (Mi.m_law_b2) s90 (List.drop i q10.1) = some e89) (fun D91 H100 np99 c98 r92 => ⟨([] : (List Int)), c0.trans c98.none, (Ty.fz r0 c98), (Ty.ex r14 c98), (Ty.fz r38 c98), (Ty.ex r52 c98), (Ty.ex r60 c98), r92, Ty.nin r14 np99, Ty.nin r52 np99, Ty.nin r60 np99, one_fresh (c0.dom D91 np99), he89⟩) (fun D91 i H' hp => by obtain ⟨s90, c0, r0, r14, r38, r52, r60, r92, d93, d94, d95, n97, _⟩ := hp; exact r14) (fun D91 i103 x102 u105 H104 hx101 r106 hp => ?_) (fun D91 H' np99 hp => ?_)
   ·
     obtain ⟨s90, c0, r0, r14, r38, r52, r60, r92, d93, d94, d95, n97, hle89⟩ := hp
     obtain ⟨_, hbe89, hle89⟩ := Mi.forN_go hle89 hx101
     unfold Mi.m_law_b2 at hbe89
     refine g_name (σ' := [some v0, some v13, some v30, some v51, some (.ref D59), none, none, none, none, none, none, none, none, none, none, none, none, none, some u105, none, none]) rfl ?_
     refine ⟨rfl, ?_⟩
     refine w_yes ?_
     refine iteT ?_
     obtain ⟨u111, F112, r113, su114, kx115, ku116⟩ := itm_tup (n := 0) at0 r106
     obtain ⟨rfl, rfl⟩ := r113
     refine c_val (ku116 (val_var rfl) val_c) ?_
     obtain ⟨x117, hx117, hbe89⟩ := Mi.bnd hbe89
     refine e_app r92 yInt_i hx117 fun H119 c118 r92 => ?_
     have r0 := Ty.fz r0 c118
     have r14 := Ty.chg r14 c118 d93
     have r38 := Ty.fz r38 c118
     have r52 := Ty.chg r52 c118 d94
     have r60 := Ty.chg r60 c118 d95
     have r106 := Ty.fz r106 c118
     have c0 := c0.join c118 (fun a h => .inr (n97 a h))
     obtain rfl := Option.some.inj hbe89
     exact ⟨x117, c0, r0, r14, r38, r52, r60, r92, d93, d94, d95, n97, hle89⟩
   obtain ⟨s90, c0, r0, r14, r38, r52, r60, r92, d93, d94, d95, n97, hle89⟩ := hp
   obtain rfl := Mi.forN_end hle89
   refine g_name (σ' := [some v0, some v13, some v30, some v51, some (.ref D59), some (.ref D91), none, none, none, none, none, none, none, none, none, none, none, none, none, none, none]) rfl ?_
   refine g_frzL r92 fun H120 c121 r122 => ?_
   have r0 := Ty.fz r0 c121
   have r14 := Ty.chg r14 c121 d93
   have r38 := Ty.fz r38 c121
   have r52 := Ty.chg r52 c121 d94
   have r60 := Ty.chg r60 c121 d95
   have c0 := c0.join c121 (fun a h => .inr (n97 a h))
   refine q_asg ?_
   refine w_lst ?_
   refine w_cons ?_
   refine w_frz ?_
   refine w_call ?_
   refine w_cons ?_
   refine w_call ?_
   refine w_args (va_cons (val_var rfl) (va_cons val_c va_nil)) ?_
   obtain ⟨q123, hq123, hm⟩ := Mi.bnd hm
   refine ⟨v0, d0, (2 : Int), q123, rfl, r0, hq123, fun v126 H125 F128 c124 r127 fr129  => ?_⟩
   have d130 : Dj F15 F128 := Ty.fresh r14 fr129
   have d131 : Dj F53 F128 := Ty.fresh r52 fr129
   have d132 : Dj [D59] F128 := Ty.fresh r60 fr129
   have n133 : ∀ a ∈ F128, H0 a = none := fun a h => c0.dom a (fr129 a h)
   have r0 := Ty.fz r0 c124
   have r14 := Ty.ex r14 c124
   have r38 := Ty.fz r38 c124
   have r52 := Ty.ex r52 c124
   have r60 := Ty.ex r60 c124
   have r122 := Ty.fz r122 c124
   have c0 := c0.trans c124.none
   refine w_cons ?_
   refine c_val (val_var rfl) ?_
   refine w_nil ?_
   obtain ⟨q134, hq134, hm⟩ := Mi.bnd hm
   have r127_old := r127
   refine ⟨v126, F128, q123, v13, F15, q10.1, q134, rfl, r127, r14, d130.symm, hq134, fun v137 H136 F139 c135 r138 fr140 r127 => ?_⟩
   have d141 : Dj F15 F139 := Ty.fresh r14 fr140
   have d142 : Dj F53 F139 := Ty.fresh r52 fr140
   have d143 : Dj [D59] F139 := Ty.fresh r60 fr140
   have n144 : ∀ a ∈ F139, H0 a = none := fun a h => c0.dom a (fr140 a h)
   have r0 := Ty.fz r0 c135
   have r14 := Ty.chg r14 c135 d130
   have r38 := Ty.fz r38 c135
   have r52 := Ty.chg r52 c135 d131
   have r60 := Ty.chg r60 c135 d132
   have r122 := Ty.fz r122 c135
   have c0 := c0.join c135 (fun a h => .inr (n133 a h))
   refine e_frz r138 fun H146 c145 r147 => ?_
   have r0 := Ty.fz r0 c145
   have r14 := Ty.chg r14 c145 d141
   have r38 := Ty.fz r38 c145
   have r52 := Ty.chg r52 c145 d142
   have r60 := Ty.chg r60 c145 d143
   have r122 := Ty.fz r122 c145
   have c0 := c0.join c145 (fun a h => .inr (n144 a h))
   refine w_cons ?_
   refine c_val (val_var rfl) ?_
   refine w_cons ?_
   refine w_frz ?_
   refine w_lc ?_
   refine w_iList ?_
   refine c_val (val_var rfl) ?_
   obtain ⟨e148, he148, hm⟩ := Mi.bnd hm
   refine kc_lst (K := K) (τ := yInt) r14 (fun D150 i H' => ∃ (s149 : (List Int)), Chg ([] : List Addr) H0 H' ∧ yScr.rep K H' [] v0 d0 ∧ (yLst (yTup (sCons yInt (sOne yInt)))).rep K H' F15 v13 q10.1 ∧ (yFl yInt).rep K H' [] v30 q27.1 ∧ (yLsg (yTup (sCons yStr (sCons yInt (sCons yInt (sCons yInt (sOne (yLst yInt)))))))).rep K H' F53 v51 q48.1 ∧ (yLst (yTupL (ySum yInt (ySum yStr (yObj C_Gate nm_Gate ty_Gate))))).rep K H' [D59] (.ref D59) s58 ∧ (yFl yInt).rep K H' [] (.ref D91) s90 ∧ (yFl yInt).rep K H' [] v137 q134.1 ∧ (yLst yInt).rep K H' [D150] (.ref D150) s149 ∧ Dj F15 [D150] ∧ Dj F53 [D150] ∧ Dj [D59] [D150] ∧ (∀ a ∈ [D150], H0 a = none) ∧ Mi.forN (Mi.m_law_b3) s149 (List.drop i q10.1) = some e148) (fun D150 H159 np158 c157 r151 => ⟨([] : (List Int)), c0.trans c157.none, (Ty.fz r0 c157), (Ty.ex r14 c157), (Ty.fz r38 c157), (Ty.ex r52 c157), (Ty.ex r60 c157), (Ty.fz r122 c157), (Ty.fz r147 c157), r151, Ty.nin r14 np158, Ty.nin r52 np158, Ty.nin r60 np158, one_fresh (c0.dom D150 np158), he148⟩) (fun D150 i H' hp => by obtain ⟨s149, c0, r0, r14, r38, r52, r60, r122, r147, r151, d152, d153, d154, n156, _⟩ := hp; exact r14) (fun D150 i162 x161 u164 H163 hx160 r165 hp => ?_) (fun D150 H' np158 hp => ?_)
   ·
     obtain ⟨s149, c0, r0, r14, r38, r52, r60, r122, r147, r151, d152, d153, d154, n156, hle148⟩ := hp
     obtain ⟨_, hbe148, hle148⟩ := Mi.forN_go hle148 hx160
     unfold Mi.m_law_b3 at hbe148
     refine g_name (σ' := [some v0, some v13, some v30, some v51, some (.ref D59), some (.ref D91), none, none, none, none, none, none, none, none, none, none, none, none, some u164, none, none]) rfl ?_
     refine ⟨rfl, ?_⟩
     refine w_yes ?_
     refine iteT ?_
     obtain ⟨u170, F171, r172, su173, kx174, ku175⟩ := itm_tup (n := 1) (atS at1) r165
     obtain ⟨rfl, rfl⟩ := r172
     refine c_val (ku175 (val_var rfl) val_c) ?_
     obtain ⟨x176, hx176, hbe148⟩ := Mi.bnd hbe148
     refine e_app r151 yInt_i hx176 fun H178 c177 r151 => ?_
     have r0 := Ty.fz r0 c177
     have r14 := Ty.chg r14 c177 d152
     have r38 := Ty.fz r38 c177
     have r52 := Ty.chg r52 c177 d153
     have r60 := Ty.chg r60 c177 d154
     have r122 := Ty.fz r122 c177
     have r165 := Ty.fz r165 c177
     have r147 := Ty.fz r147 c177
     have c0 := c0.join c177 (fun a h => .inr (n156 a h))
     obtain rfl := Option.some.inj hbe148
     exact ⟨x176, c0, r0, r14, r38, r52, r60, r122, r147, r151, d152, d153, d154, n156, hle148⟩
   obtain ⟨s149, c0, r0, r14, r38, r52, r60, r122, r147, r151, d152, d153, d154, n156, hle148⟩ := hp
   obtain rfl := Mi.forN_end hle148
   refine e_frz r151 fun H180 c179 r181 => ?_
   have r0 := Ty.fz r0 c179
   have r14 := Ty.chg r14 c179 d152
   have r38 := Ty.fz r38 c179
   have r52 := Ty.chg r52 c179 d153
   have r60 := Ty.chg r60 c179 d154
   have r122 := Ty.fz r122 c179
   have r147 := Ty.fz r147 c179
   have c0 := c0.join c179 (fun a h => .inr (n156 a h))
   refine w_nil ?_
   refine e_lst (K := K) (τ := (yFl yInt)) (by exact Nat.le_of_ble_eq_true rfl) (.cons r147 (.cons r122 (.cons r181 .nil))) fun p182 H186 np185 c183 r184 => ?_
   have d187 : Dj F15 [p182] := Ty.nin r14 np185
   have d188 : Dj F53 [p182] := Ty.nin r52 np185
   have d189 : Dj [D59] [p182] := Ty.nin r60 np185
   have n190 : ∀ a ∈ [p182], H0 a = none := one_fresh (c0.dom p182 np185)
   have r0 := Ty.fz r0 c183
   have r14 := Ty.ex r14 c183
   have r38 := Ty.fz r38 c183
   have r52 := Ty.ex r52 c183
   have r60 := Ty.ex r60 c183
   have r122 := Ty.fz r122 c183
   have r147 := Ty.fz r147 c183
   have r181 := Ty.fz r181 c183
   have c0 := c0.trans c183.none
   refine g_name (σ' := [some v0, some v13, some v30, some v51, some (.ref D59), some (.ref D91), some (.ref p182), none, none, none, none, none, none, none, none, none, none, none, none, none, none]) rfl ?_
   refine q_asg ?_
   refine w_lc ?_
   refine w_iList ?_
   refine c_val (val_var rfl) ?_
   obtain ⟨e191, he191, hm⟩ := Mi.bnd hm
   refine kc_fl (K := K) (τ := (yTup (sCons yInt (sOne yInt)))) r122 (fun D193 i H' => ∃ (s192 : (List (Int × Int))), Chg ([] : List Addr) H0 H' ∧ yScr.rep K H' [] v0 d0 ∧ (yLst (yTup (sCons yInt (sOne yInt)))).rep K H' F15 v13 q10.1 ∧ (yFl yInt).rep K H' [] v30 q27.1 ∧ (yLsg (yTup (sCons yStr (sCons yInt (sCons yInt (sCons yInt (sOne (yLst yInt)))))))).rep K H' F53 v51 q48.1 ∧ (yLst (yTupL (ySum yInt (ySum yStr (yObj C_Gate nm_Gate ty_Gate))))).rep K H' [D59] (.ref D59) s58 ∧ (yFl yInt).rep K H' [] (.ref D91) s90 ∧ (yLst (yFl yInt)).rep K H' [p182] (.ref p182) [q134.1, s90, s149] ∧ (yLst (yTup (sCons yInt (sOne yInt)))).rep K H' [D193] (.ref D193) s192 ∧ Dj F15 [D193] ∧ Dj F53 [D193] ∧ Dj [D59] [D193] ∧ Dj [p182] [D193] ∧ (∀ a ∈ [D193], H0 a = none) ∧ Mi.forN (Mi.m_law_b4) s192 (List.drop i s90) = some e191) (fun D193 H203 np202 c201 r194 => ⟨([] : (List (Int × Int))), c0.trans c201.none, (Ty.fz r0 c201), (Ty.ex r14 c201), (Ty.fz r38 c201), (Ty.ex r52 c201), (Ty.ex r60 c201), (Ty.fz r122 c201), (Ty.ex r184 c201), r194, Ty.nin r14 np202, Ty.nin r52 np202, Ty.nin r60 np202, Ty.nin r184 np202, one_fresh (c0.dom D193 np202), he191⟩) (fun D193 i H' hp => by obtain ⟨s192, c0, r0, r14, r38, r52, r60, r122, r184, r194, d195, d196, d197, d198, n200, _⟩ := hp; exact r122) (fun D193 i206 x205 u208 H207 hx204 r209 hp => ?_) (fun D193 H' np202 hp => ?_)
   ·
     obtain ⟨s192, c0, r0, r14, r38, r52, r60, r122, r184, r194, d195, d196, d197, d198, n200, hle191⟩ := hp
     obtain ⟨_, hbe191, hle191⟩ := Mi.forN_go hle191 hx204
     unfold Mi.m_law_b4 at hbe191
     obtain ⟨_, rfl⟩ := r209
     refine g_name (σ' := [some v0, some v13, some v30, some v51, some (.ref D59), some (.ref D91), some (.ref p182), none, none, none, none, none, none, none, none, none, none, none, none, some (.int x205), none]) rfl ?_
     refine ⟨rfl, ?_⟩
     refine w_yes ?_
     refine iteT ?_
     refine w_tup ?_
     refine w_args (va_cons (val_var rfl) (va_cons (val_var rfl) va_nil)) ?_
     refine e_tup (K := K) (ty := (sCons yInt (sOne yInt))) (F := []) (d := (x205, x205)) (by exact Nat.le_of_ble_eq_true rfl) ⟨_, _, _, _, rfl, rfl, yInt_i, ⟨_, rfl, yInt_i⟩⟩ fun p214 H218 np217 c215 r216  => ?_
     have r0 := Ty.fz r0 c215
     have r14 := Ty.ex r14 c215
     have r38 := Ty.fz r38 c215
     have r52 := Ty.ex r52 c215
     have r60 := Ty.ex r60 c215
     have r122 := Ty.fz r122 c215
     have r184 := Ty.ex r184 c215
     have r194 := Ty.ex r194 c215
     have c0 := c0.trans c215.none
     obtain ⟨x219, hx219, hbe191⟩ := Mi.bnd hbe191
     refine e_app r194 r216 hx219 fun H221 c220 r194 => ?_
     have r0 := Ty.fz r0 c220
     have r14 := Ty.chg r14 c220 d195
     have r38 := Ty.fz r38 c220
     have r52 := Ty.chg r52 c220 d196
     have r60 := Ty.chg r60 c220 d197
     have r122 := Ty.fz r122 c220
     have r184 := Ty.chg r184 c220 d198
     have c0 := c0.join c220 (fun a h => .inr (n200 a h))
     obtain rfl := Option.some.inj hbe191
     exact ⟨x219, c0, r0, r14, r38, r52, r60, r122, r184, r194, d195, d196, d197, d198, n200, hle191⟩
   obtain ⟨s192, c0, r0, r14, r38, r52, r60, r122, r184, r194, d195, d196, d197, d198, n200, hle191⟩ := hp
   obtain rfl := Mi.forN_end hle191
   refine g_name (σ' := [some v0, some v13, some v30, some v51, some (.ref D59), some (.ref D91), some (.ref p182), some (.ref D193), none, none, none, none, none, none, none, none, none, none, none, none, none]) rfl ?_
   refine q_asg ?_
   refine w_call ?_
   refine w_args (va_cons (val_var rfl) (va_cons val_c va_nil)) ?_
   obtain ⟨q222, hq222, hm⟩ := Mi.bnd hm
   refine ⟨v0, d0, (4 : Int), q222, rfl, r0, hq222, fun v225 H224 F227 c223 r226 fr228  => ?_⟩
   have d229 : Dj F15 F227 := Ty.fresh r14 fr228
   have d230 : Dj F53 F227 := Ty.fresh r52 fr228
   have d231 : Dj [D59] F227 := Ty.fresh r60 fr228
   have d232 : Dj [p182] F227 := Ty.fresh r184 fr228
   have d233 : Dj [D193] F227 := Ty.fresh r194 fr228
   have n234 : ∀ a ∈ F227, H0 a = none := fun a h => c0.dom a (fr228 a h)
   have r0 := Ty.fz r0 c223
   have r14 := Ty.ex r14 c223
   have r38 := Ty.fz r38 c223
   have r52 := Ty.ex r52 c223
   have r60 := Ty.ex r60 c223
   have r122 := Ty.fz r122 c223
   have r184 := Ty.ex r184 c223
   have r194 := Ty.ex r194 c223
   have c0 := c0.trans c223.none
   refine g_name (σ' := [some v0, some v13, some v30, some v51, some (.ref D59), some (.ref D91), some (.ref p182), some (.ref D193), some v225, none, none, none, none, none, none, none, none, none, none, none, none]) rfl ?_
   refine q_asg ?_
   refine w_call ?_
   refine w_args (va_cons (val_var rfl) (va_cons val_c va_nil)) ?_
   obtain ⟨q235, hq235, hm⟩ := Mi.bnd hm
   refine ⟨v225, F227, q222, (4 : Int), q235, rfl, r226, hq235, fun H237 c236 r226 => ?_⟩
   have r0 := Ty.fz r0 c236
   have r14 := Ty.chg r14 c236 d229
   have r38 := Ty.fz r38 c236
   have r52 := Ty.chg r52 c236 d230
   have r60 := Ty.chg r60 c236 d231
   have r122 := Ty.fz r122 c236
   have r184 := Ty.chg r184 c236 d232
   have r194 := Ty.chg r194 c236 d233
   have c0 := c0.join c236 (fun a h => .inr (n234 a h))
   refine g_name (σ' := [some v0, some v13, some v30, some v51, some (.ref D59), some (.ref D91), some (.ref p182), some (.ref D193), some v225, some (.int q235.1), none, none, none, none, none, none, none, none, none, none, none]) rfl ?_
   refine q_asg ?_
   refine w_op ?_
   refine w_lst ?_
   refine w_cons ?_
   refine c_val val_c ?_
   refine w_cons ?_
   refine w_cb ?_
   refine w_cons ?_
   refine c_val val_c ?_
   refine w_cons ?_
   refine w_op ?_
   refine w_cb ?_
   refine w_args (va_cons (val_var rfl) va_nil) ?_
   obtain ⟨x238, hx238, hm⟩ := Mi.bnd hm
   refine w_maxF r38 hx238 ?_
   refine w_call ?_
   refine w_args (va_cons (val_var rfl) (va_cons val_c va_nil)) ?_
   obtain ⟨q239, hq239, hm⟩ := Mi.bnd hm
   refine ⟨v225, F227, q235.2, (3 : Int), q239, rfl, r226, hq239, fun H241 c240 r226 => ?_⟩
   have r0 := Ty.fz r0 c240
   have r14 := Ty.chg r14 c240 d229
   have r38 := Ty.fz r38 c240
   have r52 := Ty.chg r52 c240 d230
   have r60 := Ty.chg r60 c240 d231
   have r122 := Ty.fz r122 c240
   have r184 := Ty.chg r184 c240 d232
   have r194 := Ty.chg r194 c240 d233
   have c0 := c0.join c240 (fun a h => .inr (n234 a h))
   refine w_I0 ?_
   refine w_nil ?_
   refine w_min2 ?_
   refine w_cons ?_
   refine w_call ?_
   refine w_args (va_cons (val_var rfl) (va_cons val_c va_nil)) ?_
   obtain ⟨q242, hq242, hm⟩ := Mi.bnd hm
   refine ⟨v225, F227, q239.2, (31 : Int), q242, rfl, r226, hq242, fun H244 c243 r226 => ?_⟩
   have r0 := Ty.fz r0 c243
   have r14 := Ty.chg r14 c243 d229
   have r38 := Ty.fz r38 c243
   have r52 := Ty.chg r52 c243 d230
   have r60 := Ty.chg r60 c243 d231
   have r122 := Ty.fz r122 c243
   have r184 := Ty.chg r184 c243 d232
   have r194 := Ty.chg r194 c243 d233
   have c0 := c0.join c243 (fun a h => .inr (n234 a h))
   refine w_cons ?_
   refine w_call ?_
   refine w_args (va_cons (val_var rfl) (va_cons val_c va_nil)) ?_
   obtain ⟨q245, hq245, hm⟩ := Mi.bnd hm
   refine ⟨v225, F227, q242.2, (97 : Int), q245, rfl, r226, hq245, fun H247 c246 r226 => ?_⟩
   have r0 := Ty.fz r0 c246
   have r14 := Ty.chg r14 c246 d229
   have r38 := Ty.fz r38 c246
   have r52 := Ty.chg r52 c246 d230
   have r60 := Ty.chg r60 c246 d231
   have r122 := Ty.fz r122 c246
   have r184 := Ty.chg r184 c246 d232
   have r194 := Ty.chg r194 c246 d233
   have c0 := c0.join c246 (fun a h => .inr (n234 a h))
   refine w_nil ?_
   refine e_lst (K := K) (τ := yInt) (by exact Nat.le_of_ble_eq_true rfl) (.cons yInt_i (.cons yInt_i (.cons yInt_i (.cons yInt_i .nil)))) fun p248 H252 np251 c249 r250 => ?_
   have d253 : Dj F15 [p248] := Ty.nin r14 np251
   have d254 : Dj F53 [p248] := Ty.nin r52 np251
   have d255 : Dj [D59] [p248] := Ty.nin r60 np251
   have d256 : Dj [p182] [p248] := Ty.nin r184 np251
   have d257 : Dj [D193] [p248] := Ty.nin r194 np251
   have d258 : Dj F227 [p248] := Ty.nin r226 np251
   have n259 : ∀ a ∈ [p248], H0 a = none := one_fresh (c0.dom p248 np251)
   have r0 := Ty.fz r0 c249
   have r14 := Ty.ex r14 c249
   have r38 := Ty.fz r38 c249
   have r52 := Ty.ex r52 c249
   have r60 := Ty.ex r60 c249
   have r122 := Ty.fz r122 c249
   have r184 := Ty.ex r184 c249
   have r194 := Ty.ex r194 c249
   have r226 := Ty.ex r226 c249
   have c0 := c0.trans c249.none
   refine c_val (val_var rfl) ?_
   obtain ⟨x260, hx260, hm⟩ := Mi.bnd hm
   refine w_ixL r250 hx260 fun u261 r262 => ?_
   obtain ⟨_, rfl⟩ := r262
   refine g_name (σ' := [some v0, some v13, some v30, some v51, some (.ref D59), some (.ref D91), some (.ref p182), some (.ref D193), some v225, some (.int q235.1), some (.int x260), none, none, none, none, none, none, none, none, none, none]) rfl ?_
   refine q_post ?_
   refine q_asg ?_
   refine w_lc ?_
   refine w_iList ?_
   refine c_val (val_var rfl) ?_
   obtain ⟨e263, he263, hm⟩ := Mi.bnd hm
   refine kc_fl (K := K) (τ := yInt) r38 (fun D265 i H' => ∃ (s264 : ((List Int) × (List Int))), Chg ([] : List Addr) H0 H' ∧ yScr.rep K H' [] v0 d0 ∧ (yLst (yTup (sCons yInt (sOne yInt)))).rep K H' F15 v13 q10.1 ∧ (yFl yInt).rep K H' [] v30 q27.1 ∧ (yLsg (yTup (sCons yStr (sCons yInt (sCons yInt (sCons yInt (sOne (yLst yInt)))))))).rep K H' F53 v51 q48.1 ∧ (yLst (yTupL (ySum yInt (ySum yStr (yObj C_Gate nm_Gate ty_Gate))))).rep K H' [D59] (.ref D59) s58 ∧ (yFl yInt).rep K H' [] (.ref D91) s90 ∧ (yLst (yFl yInt)).rep K H' [p182] (.ref p182) [q134.1, s90, s149] ∧ (yLst (yTup (sCons yInt (sOne yInt)))).rep K H' [D193] (.ref D193) s192 ∧ (yLst yInt).rep K H' F227 v225 s264.2 ∧ (yLst yInt).rep K H' [D265] (.ref D265) s264.1 ∧ Dj F15 [D265] ∧ Dj F53 [D265] ∧ Dj [D59] [D265] ∧ Dj [p182] [D265] ∧ Dj [D193] [D265] ∧ Dj F227 [D265] ∧ (∀ a ∈ [D265], H0 a = none) ∧ Mi.forN (Mi.m_law_b5) s264 (List.drop i q27.1) = some e263) (fun D265 H277 np276 c275 r266 => ⟨(([] : (List Int)), q245.2), c0.trans c275.none, (Ty.fz r0 c275), (Ty.ex r14 c275), (Ty.fz r38 c275), (Ty.ex r52 c275), (Ty.ex r60 c275), (Ty.fz r122 c275), (Ty.ex r184 c275), (Ty.ex r194 c275), (Ty.ex r226 c275), r266, Ty.nin r14 np276, Ty.nin r52 np276, Ty.nin r60 np276, Ty.nin r184 np276, Ty.nin r194 np276, Ty.nin r226 np276, one_fresh (c0.dom D265 np276), he263⟩) (fun D265 i H' hp => by obtain ⟨s264, c0, r0, r14, r38, r52, r60, r122, r184, r194, r226, r266, d267, d268, d269, d270, d271, d272, n274, _⟩ := hp; exact r38) (fun D265 i280 x279 u282 H281 hx278 r283 hp => ?_) (fun D265 H' np276 hp => ?_)
   ·
     obtain ⟨s264, c0, r0, r14, r38, r52, r60, r122, r184, r194, r226, r266, d267, d268, d269, d270, d271, d272, n274, hle263⟩ := hp
     obtain ⟨_, hbe263, hle263⟩ := Mi.forN_go hle263 hx278
     unfold Mi.m_law_b5 at hbe263
     obtain ⟨_, rfl⟩ := r283
     refine g_name (σ' := [some v0, some v13, some v30, some v51, some (.ref D59), some (.ref D91), some (.ref p182), some (.ref D193), some v225, some (.int q235.1), some (.int x260), none, none, none, none, none, none, none, none, none, some (.int x279)]) rfl ?_
     refine ⟨rfl, ?_⟩
     refine w_yes ?_
     refine iteT ?_
     refine w_cb ?_
     refine w_cons ?_
     refine c_val val_c ?_
     refine w_cons ?_
     refine w_op ?_
     refine w_op ?_
     refine c_val (val_var rfl) ?_
     refine w_call ?_
     refine w_args (va_cons (val_var rfl) (va_cons val_c va_nil)) ?_
     obtain ⟨q288, hq288, hbe263⟩ := Mi.bnd hbe263
     refine ⟨v225, F227, s264.2, (5 : Int), q288, rfl, r226, hq288, fun H290 c289 r226 => ?_⟩
     have r0 := Ty.fz r0 c289
     have r14 := Ty.chg r14 c289 d229
     have r38 := Ty.fz r38 c289
     have r52 := Ty.chg r52 c289 d230
     have r60 := Ty.chg r60 c289 d231
     have r122 := Ty.fz r122 c289
     have r184 := Ty.chg r184 c289 d232
     have r194 := Ty.chg r194 c289 d233
     have r266 := Ty.chg r266 c289 d272.symm
     have c0 := c0.join c289 (fun a h => .inr (n234 a h))
     refine w_I0 ?_
     refine c_val val_c ?_
     refine w_I0 ?_
     refine w_nil ?_
     refine w_max2 ?_
     obtain ⟨x291, hx291, hbe263⟩ := Mi.bnd hbe263
     refine e_app r266 yInt_i hx291 fun H293 c292 r266 => ?_
     have r0 := Ty.fz r0 c292
     have r14 := Ty.chg r14 c292 d267
     have r38 := Ty.fz r38 c292
     have r52 := Ty.chg r52 c292 d268
     have r60 := Ty.chg r60 c292 d269
     have r122 := Ty.fz r122 c292
     have r184 := Ty.chg r184 c292 d270
     have r194 := Ty.chg r194 c292 d271
     have r226 := Ty.chg r226 c292 d272
     have c0 := c0.join c292 (fun a h => .inr (n274 a h))
     obtain rfl := Option.some.inj hbe263
     exact ⟨(x291, q288.2), c0, r0, r14, r38, r52, r60, r122, r184, r194, r226, r266, d267, d268, d269, d270, d271, d272, n274, hle263⟩
   obtain ⟨s264, c0, r0, r14, r38, r52, r60, r122, r184, r194, r226, r266, d267, d268, d269, d270, d271, d272, n274, hle263⟩ := hp
   obtain rfl := Mi.forN_end hle263
   refine g_name (σ' := [some v0, some v13, some v30, some v51, some (.ref D59), some (.ref D91), some (.ref p182), some (.ref D193), some v225, some (.int q235.1), some (.int x260), some (.ref D265), none, none, none, none, none, none, none, none, none]) rfl ?_
   refine g_frzL r266 fun H294 c295 r296 => ?_
   have r0 := Ty.fz r0 c295
   have r14 := Ty.chg r14 c295 d267
   have r38 := Ty.fz r38 c295
   have r52 := Ty.chg r52 c295 d268
   have r60 := Ty.chg r60 c295 d269
   have r122 := Ty.fz r122 c295
   have r184 := Ty.chg r184 c295 d270
   have r194 := Ty.chg r194 c295 d271
   have r226 := Ty.chg r226 c295 d272
   have c0 := c0.join c295 (fun a h => .inr (n274 a h))
   refine q_asg ?_
   refine w_call ?_
   refine w_args (va_cons (val_var rfl) (va_cons val_c va_nil)) ?_
   obtain ⟨q297, hq297, hm⟩ := Mi.bnd hm
   refine ⟨v0, d0, (5 : Int), q297, rfl, r0, hq297, fun v300 H299 F302 c298 r301 fr303  => ?_⟩
   have d304 : Dj F15 F302 := Ty.fresh r14 fr303
   have d305 : Dj F53 F302 := Ty.fresh r52 fr303
   have d306 : Dj [D59] F302 := Ty.fresh r60 fr303
   have d307 : Dj [p182] F302 := Ty.fresh r184 fr303
   have d308 : Dj [D193] F302 := Ty.fresh r194 fr303
   have d309 : Dj F227 F302 := Ty.fresh r226 fr303
   have n310 : ∀ a ∈ F302, H0 a = none := fun a h => c0.dom a (fr303 a h)
   have r0 := Ty.fz r0 c298
   have r14 := Ty.ex r14 c298
   have r38 := Ty.fz r38 c298
   have r52 := Ty.ex r52 c298
   have r60 := Ty.ex r60 c298
   have r122 := Ty.fz r122 c298
   have r184 := Ty.ex r184 c298
   have r194 := Ty.ex r194 c298
   have r226 := Ty.ex r226 c298
   have r296 := Ty.fz r296 c298
   have c0 := c0.trans c298.none
   refine g_name (σ' := [some v0, some v13, some v30, some v51, some (.ref D59), some (.ref D91), some (.ref p182), some (.ref D193), some v225, some (.int q235.1), some (.int x260), some (.ref D265), some v300, none, none, none, none, none, none, none, none]) rfl ?_
   refine q_asg ?_
   refine w_call ?_
   refine w_args (va_cons (val_var rfl) (va_cons (val_lenL r60 (val_var rfl)) va_nil)) ?_
   obtain ⟨q311, hq311, hm⟩ := Mi.bnd hm
   have r301_old := r301
   refine ⟨v300, F302, q297, (s58.length : Int), q311, rfl, r301, hq311, fun v314 H313 F316 c312 r315 fr317 r301 => ?_⟩
   have d318 : Dj F15 F316 := Ty.fresh r14 fr317
   have d319 : Dj F53 F316 := Ty.fresh r52 fr317
   have d320 : Dj [D59] F316 := Ty.fresh r60 fr317
   have d321 : Dj [p182] F316 := Ty.fresh r184 fr317
   have d322 : Dj [D193] F316 := Ty.fresh r194 fr317
   have d323 : Dj F227 F316 := Ty.fresh r226 fr317
   have d324 : Dj F302 F316 := Ty.fresh r301_old fr317
   have n325 : ∀ a ∈ F316, H0 a = none := fun a h => c0.dom a (fr317 a h)
   have r0 := Ty.fz r0 c312
   have r14 := Ty.chg r14 c312 d304
   have r38 := Ty.fz r38 c312
   have r52 := Ty.chg r52 c312 d305
   have r60 := Ty.chg r60 c312 d306
   have r122 := Ty.fz r122 c312
   have r184 := Ty.chg r184 c312 d307
   have r194 := Ty.chg r194 c312 d308
   have r226 := Ty.chg r226 c312 d309
   have r296 := Ty.fz r296 c312
   have c0 := c0.join c312 (fun a h => .inr (n310 a h))
   refine g_name (σ' := [some v0, some v13, some v30, some v51, some (.ref D59), some (.ref D91), some (.ref p182), some (.ref D193), some v225, some (.int q235.1), some (.int x260), some (.ref D265), some v300, some v314, none, none, none, none, none, none, none]) rfl ?_
   refine q_asg ?_
   refine w_call ?_
   refine w_args (va_cons (val_var rfl) (va_cons (val_var rfl) (va_cons (val_var rfl) (va_cons (val_lenL r14 (val_var rfl)) va_nil)))) ?_
   obtain ⟨q326, hq326, hm⟩ := Mi.bnd hm
   have r301_old := r301
   refine ⟨v300, F302, q311.2, (.ref D59), [D59], s58, v314, F316, q311.1, (q10.1.length : Int), q326, rfl, r301, r60, r315, d306.symm, d324, hq326, fun v329 H328 F331 c327 r330 fr332 r301 => ?_⟩
   have d333 : Dj F15 F331 := Ty.fresh r14 fr332
   have d334 : Dj F53 F331 := Ty.fresh r52 fr332
   have d335 : Dj [D59] F331 := Ty.fresh r60 fr332
   have d336 : Dj [p182] F331 := Ty.fresh r184 fr332
   have d337 : Dj [D193] F331 := Ty.fresh r194 fr332
   have d338 : Dj F227 F331 := Ty.fresh r226 fr332
   have d339 : Dj F302 F331 := Ty.fresh r301_old fr332
   have d340 : Dj F316 F331 := Ty.fresh r315 fr332
   have n341 : ∀ a ∈ F331, H0 a = none := fun a h => c0.dom a (fr332 a h)
   have r0 := Ty.fz r0 c327
   have r14 := Ty.chg r14 c327 d304
   have r38 := Ty.fz r38 c327
   have r52 := Ty.chg r52 c327 d305
   have r60 := Ty.chg r60 c327 d306
   have r122 := Ty.fz r122 c327
   have r184 := Ty.chg r184 c327 d307
   have r194 := Ty.chg r194 c327 d308
   have r226 := Ty.chg r226 c327 d309
   have r296 := Ty.fz r296 c327
   have r315 := Ty.chg r315 c327 d324.symm
   have c0 := c0.join c327 (fun a h => .inr (n310 a h))
   refine g_name (σ' := [some v0, some v13, some v30, some v51, some (.ref D59), some (.ref D91), some (.ref p182), some (.ref D193), some v225, some (.int q235.1), some (.int x260), some (.ref D265), some v300, some v314, some v329, none, none, none, none, none, none]) rfl ?_
   refine q_for ?_
   refine w_iList ?_
   refine w_lst ?_
   refine w_cons ?_
   refine w_tup ?_
   refine w_args (va_cons (val_var rfl) (va_cons (val_var rfl) va_nil)) ?_
   refine e_tup (K := K) (ty := (sCons (yLst (yTup (sCons yInt (sOne yInt)))) (sOne (yLst (yFl yInt))))) (F := (F15 ++ [p182])) (d := (q10.1, [q134.1, s90, s149])) (by exact Nat.le_of_ble_eq_true rfl) ⟨_, _, _, _, rfl, rfl, r14, ⟨_, rfl, r184⟩⟩ fun p342 H346 np345 c343 r344  => ?_
   have r0 := Ty.fz r0 c343
   have r14 := Ty.ex r14 c343
   have r38 := Ty.fz r38 c343
   have r52 := Ty.ex r52 c343
   have r60 := Ty.ex r60 c343
   have r122 := Ty.fz r122 c343
   have r184 := Ty.ex r184 c343
   have r194 := Ty.ex r194 c343
   have r226 := Ty.ex r226 c343
   have r296 := Ty.fz r296 c343
   have r301 := Ty.ex r301 c343
   have r315 := Ty.ex r315 c343
   have r330 := Ty.ex r330 c343
   have c0 := c0.trans c343.none
   have d347 : Dj (F15 ++ [p182]) F53 := (Dj.app (d55) (d188.symm))
   have d348 : Dj (F15 ++ [p182]) [D59] := (Dj.app (d61) (d189.symm))
   have d349 : Dj (F15 ++ [p182]) [D193] := (Dj.app (d195) (d198))
   have d350 : Dj (F15 ++ [p182]) F227 := (Dj.app (d229) (d232))
   have d351 : Dj (F15 ++ [p182]) F302 := (Dj.app (d304) (d307))
   have d352 : Dj (F15 ++ [p182]) F316 := (Dj.app (d318) (d321))
   have d353 : Dj (F15 ++ [p182]) F331 := (Dj.app (d333) (d336))
   refine w_cons ?_
   refine w_tup ?_
   refine w_cons ?_
   refine c_val (val_var rfl) ?_
   refine w_cons ?_
   refine w_lst ?_
   refine w_args (va_cons (val_var rfl) va_nil) ?_
   refine e_lst (K := K) (τ := (yFl yInt)) (by exact Nat.le_of_ble_eq_true rfl) (.cons r122 .nil) fun p354 H358 np357 c355 r356 => ?_
   have d359 : Dj F15 [p354] := Ty.nin r14 np357
   have d360 : Dj F53 [p354] := Ty.nin r52 np357
   have d361 : Dj [D59] [p354] := Ty.nin r60 np357
   have d362 : Dj [p182] [p354] := Ty.nin r184 np357
   have d363 : Dj [D193] [p354] := Ty.nin r194 np357
   have d364 : Dj F227 [p354] := Ty.nin r226 np357
   have d365 : Dj F302 [p354] := Ty.nin r301 np357
   have d366 : Dj F316 [p354] := Ty.nin r315 np357
   have d367 : Dj F331 [p354] := Ty.nin r330 np357
   have d368 : Dj (F15 ++ [p182]) [p354] := Ty.nin r344 np357
   have n369 : ∀ a ∈ [p354], H0 a = none := one_fresh (c0.dom p354 np357)
   have r0 := Ty.fz r0 c355
   have r14 := Ty.ex r14 c355
   have r38 := Ty.fz r38 c355
   have r52 := Ty.ex r52 c355
   have r60 := Ty.ex r60 c355
   have r122 := Ty.fz r122 c355
   have r184 := Ty.ex r184 c355
   have r194 := Ty.ex r194 c355
   have r226 := Ty.ex r226 c355
   have r296 := Ty.fz r296 c355
   have r301 := Ty.ex r301 c355
   have r315 := Ty.ex r315 c355
   have r330 := Ty.ex r330 c355
   have r344 := Ty.ex r344 c355
   have c0 := c0.trans c355.none
   refine w_nil ?_
   refine e_tup (K := K) (ty := (sCons (yLst (yTup (sCons yInt (sOne yInt)))) (sOne (yLst (yFl yInt))))) (F := ([D193] ++ [p354])) (d := (s192, [s90])) (by exact Nat.le_of_ble_eq_true rfl) ⟨_, _, _, _, rfl, rfl, r194, ⟨_, rfl, r356⟩⟩ fun p370 H374 np373 c371 r372  => ?_
   have r0 := Ty.fz r0 c371
   have r14 := Ty.ex r14 c371
   have r38 := Ty.fz r38 c371
   have r52 := Ty.ex r52 c371
   have r60 := Ty.ex r60 c371
   have r122 := Ty.fz r122 c371
   have r184 := Ty.ex r184 c371
   have r194 := Ty.ex r194 c371
   have r226 := Ty.ex r226 c371
   have r296 := Ty.fz r296 c371
   have r301 := Ty.ex r301 c371
   have r315 := Ty.ex r315 c371
   have r330 := Ty.ex r330 c371
   have r344 := Ty.ex r344 c371
   have r356 := Ty.ex r356 c371
   have c0 := c0.trans c371.none
   have d375 : Dj ([D193] ++ [p354]) F15 := (Dj.app (d195.symm) (d359.symm))
   have d376 : Dj ([D193] ++ [p354]) F53 := (Dj.app (d196.symm) (d360.symm))
   have d377 : Dj ([D193] ++ [p354]) [D59] := (Dj.app (d197.symm) (d361.symm))
   have d378 : Dj ([D193] ++ [p354]) [p182] := (Dj.app (d198.symm) (d362.symm))
   have d379 : Dj ([D193] ++ [p354]) F227 := (Dj.app (d233) (d364.symm))
   have d380 : Dj ([D193] ++ [p354]) F302 := (Dj.app (d308) (d365.symm))
   have d381 : Dj ([D193] ++ [p354]) F316 := (Dj.app (d322) (d366.symm))
   have d382 : Dj ([D193] ++ [p354]) F331 := (Dj.app (d337) (d367.symm))
   have d383 : Dj ([D193] ++ [p354]) (F15 ++ [p182]) := (Dj.app (d349.symm) (d368.symm))
   refine w_cons ?_
   refine w_tup ?_
   refine w_args (va_cons (val_var rfl) (va_cons (val_var rfl) va_nil)) ?_
   refine e_tup (K := K) (ty := (sCons (yLst (yTup (sCons yInt (sOne yInt)))) (sOne (yLst (yFl yInt))))) (F := (F15 ++ [p182])) (d := (q10.1, [q134.1, s90, s149])) (by exact Nat.le_of_ble_eq_true rfl) ⟨_, _, _, _, rfl, rfl, r14, ⟨_, rfl, r184⟩⟩ fun p384 H388 np387 c385 r386  => ?_
   have r0 := Ty.fz r0 c385
   have r14 := Ty.ex r14 c385
   have r38 := Ty.fz r38 c385
   have r52 := Ty.ex r52 c385
   have r60 := Ty.ex r60 c385
   have r122 := Ty.fz r122 c385
   have r184 := Ty.ex r184 c385
   have r194 := Ty.ex r194 c385
   have r226 := Ty.ex r226 c385
   have r296 := Ty.fz r296 c385
   have r301 := Ty.ex r301 c385
   have r315 := Ty.ex r315 c385
   have r330 := Ty.ex r330 c385
   have r344 := Ty.ex r344 c385
   have r372 := Ty.ex r372 c385
   have c0 := c0.trans c385.none
   have d389 : Dj (F15 ++ [p182]) F53 := (Dj.app (d55) (d188.symm))
   have d390 : Dj (F15 ++ [p182]) [D59] := (Dj.app (d61) (d189.symm))
   have d391 : Dj (F15 ++ [p182]) [D193] := (Dj.app (d195) (d198))
   have d392 : Dj (F15 ++ [p182]) F227 := (Dj.app (d229) (d232))
   have d393 : Dj (F15 ++ [p182]) F302 := (Dj.app (d304) (d307))
   have d394 : Dj (F15 ++ [p182]) F316 := (Dj.app (d318) (d321))
   have d395 : Dj (F15 ++ [p182]) F331 := (Dj.app (d333) (d336))
   have d396 : Dj (F15 ++ [p182]) ([D193] ++ [p354]) := (Dj.app (d375.symm) (d378.symm))
   refine w_nil ?_
   refine e_lsg (K := K) (τ := (yTup (sCons (yLst (yTup (sCons yInt (sOne yInt)))) (sOne (yLst (yFl yInt)))))) (G := ((F15 ++ [p182]) ++ ([D193] ++ [p354]))) (by exact Nat.le_of_ble_eq_true rfl) (dm_app (Ty.dm r386) (Ty.dm r372)) (.cons ⟨(F15 ++ [p182]), r344, (fun b h => List.mem_append_left _ h)⟩ (.cons ⟨([D193] ++ [p354]), r372, (fun b h => List.mem_append_right _ (h))⟩ (.cons ⟨(F15 ++ [p182]), r386, (fun b h => List.mem_append_left _ h)⟩ .nil))) fun p397 H401 np400 c398 r399 => ?_
   have d402 : Dj F53 (p397 :: ((F15 ++ [p182]) ++ ([D193] ++ [p354]))) := Dj.consR (Ty.nin r52 np400) (Dj.symm (Dj.app (Dj.symm (d389.symm)) (Dj.symm (d376.symm))))
   have d403 : Dj [D59] (p397 :: ((F15 ++ [p182]) ++ ([D193] ++ [p354]))) := Dj.consR (Ty.nin r60 np400) (Dj.symm (Dj.app (Dj.symm (d390.symm)) (Dj.symm (d377.symm))))
   have d404 : Dj F227 (p397 :: ((F15 ++ [p182]) ++ ([D193] ++ [p354]))) := Dj.consR (Ty.nin r226 np400) (Dj.symm (Dj.app (Dj.symm (d392.symm)) (Dj.symm (d379.symm))))
   have d405 : Dj F302 (p397 :: ((F15 ++ [p182]) ++ ([D193] ++ [p354]))) := Dj.consR (Ty.nin r301 np400) (Dj.symm (Dj.app (Dj.symm (d393.symm)) (Dj.symm (d380.symm))))
   have d406 : Dj F316 (p397 :: ((F15 ++ [p182]) ++ ([D193] ++ [p354]))) := Dj.consR (Ty.nin r315 np400) (Dj.symm (Dj.app (Dj.symm (d394.symm)) (Dj.symm (d381.symm))))
   have d407 : Dj F331 (p397 :: ((F15 ++ [p182]) ++ ([D193] ++ [p354]))) := Dj.consR (Ty.nin r330 np400) (Dj.symm (Dj.app (Dj.symm (d395.symm)) (Dj.symm (d382.symm))))
   have n408 : ∀ a ∈ (p397 :: ((F15 ++ [p182]) ++ ([D193] ++ [p354]))), H0 a = none := fresh_cons (c0.dom p397 np400) (app_fresh (app_fresh n17 n190) (app_fresh n200 n369))
   have r0 := Ty.fz r0 c398
   have r14 := Ty.ex r14 c398
   have r38 := Ty.fz r38 c398
   have r52 := Ty.ex r52 c398
   have r60 := Ty.ex r60 c398
   have r122 := Ty.fz r122 c398
   have r184 := Ty.ex r184 c398
   have r194 := Ty.ex r194 c398
   have r226 := Ty.ex r226 c398
   have r296 := Ty.fz r296 c398
   have r301 := Ty.ex r301 c398
   have r315 := Ty.ex r315 c398
   have r330 := Ty.ex r330 c398
   have r344 := Ty.ex r344 c398
   have r372 := Ty.ex r372 c398
   have r386 := Ty.ex r386 c398
   have c0 := c0.trans c398.none
   obtain ⟨e409, he409, hm⟩ := Mi.bnd hm
   refine l_lsg r399 (fun i σ' H' => ∃ (s410 : (List Int)) (y411 : Option V) (y412 : Option V), σ' = [some v0, some v13, some v30, some v51, some (.ref D59), some (.ref D91), some (.ref p182), some (.ref D193), some v225, some (.int q235.1), some (.int x260), some (.ref D265), some v300, some v314, some v329, y411, y412, none, none, none, none] ∧ Chg ([] : List Addr) H0 H' ∧ yScr.rep K H' [] v0 d0 ∧ (yLst (yTup (sCons yInt (sOne yInt)))).rep K H' F15 v13 q10.1 ∧ (yFl yInt).rep K H' [] v30 q27.1 ∧ (yLsg (yTup (sCons yStr (sCons yInt (sCons yInt (sCons yInt (sOne (yLst yInt)))))))).rep K H' F53 v51 q48.1 ∧ (yLst (yTupL (ySum yInt (ySum yStr (yObj C_Gate nm_Gate ty_Gate))))).rep K H' [D59] (.ref D59) s58 ∧ (yFl yInt).rep K H' [] (.ref D91) s90 ∧ (yLst (yFl yInt)).rep K H' [p182] (.ref p182) [q134.1, s90, s149] ∧ (yLst (yTup (sCons yInt (sOne yInt)))).rep K H' [D193] (.ref D193) s192 ∧ (yLst yInt).rep K H' F227 v225 s410 ∧ (yFl yInt).rep K H' [] (.ref D265) s264.1 ∧ (yLst yInt).rep K H' F302 v300 q326.2 ∧ (yLst yInt).rep K H' F316 v314 q311.1 ∧ (yLst (yTupL (ySum yInt (ySum yStr (yObj C_Gate nm_Gate ty_Gate))))).rep K H' F331 v329 q326.1 ∧ (yLsg (yTup (sCons (yLst (yTup (sCons yInt (sOne yInt)))) (sOne (yLst (yFl yInt)))))).rep K H' (p397 :: ((F15 ++ [p182]) ++ ([D193] ++ [p354]))) (.ref p397) [(q10.1, [q134.1, s90, s149]), (s192, [s90]), (q10.1, [q134.1, s90, s149])] ∧ Mi.forR (Mi.m_law_b6 q10 q27 q48 s58 q235 x260 s264 q311 q326) s410 (List.drop i [(q10.1, [q134.1, s90, s149]), (s192, [s90]), (q10.1, [q134.1, s90, s149])]) = some e409) ⟨s264.2, none, none, rfl, c0, r0, r14, r38, r52, r60, r122, r184, r194, r226, r296, r301, r315, r330, r399, he409⟩ (fun i σ' H' hp => by obtain ⟨s410, y411, y412, rfl, c0, r0, r14, r38, r52, r60, r122, r184, r194, r226, r296, r301, r315, r330, r399, _⟩ := hp; exact r399) (fun i415 x414 u416 F418 σ' H' hx413 r417 su419 hp => ?_) (fun σ' H' hp => ?_)
   ·
     obtain ⟨s410, y411, y412, rfl, c0, r0, r14, r38, r52, r60, r122, r184, r194, r226, r296, r301, r315, r330, r399, hle409⟩ := hp
     obtain ⟨o420, hbe409, hore409⟩ := Mi.forR_go hle409 hx413
     unfold Mi.m_law_b6 at hbe409
     have d421 : Dj F418 F53 := Dj.sub (d402.symm) su419
     have d422 : Dj F418 [D59] := Dj.sub (d403.symm) su419
     have d423 : Dj F418 F227 := Dj.sub (d404.symm) su419
     have d424 : Dj F418 F302 := Dj.sub (d405.symm) su419
     have d425 : Dj F418 F316 := Dj.sub (d406.symm) su419
     have d426 : Dj F418 F331 := Dj.sub (d407.symm) su419
     have n427 : ∀ a ∈ F418, H0 a = none := fun a h => n408 a (su419 a h)
     refine g_name (σ' := [some v0, some v13, some v30, some v51, some (.ref D59), some (.ref D91), some (.ref p182), some (.ref D193), some v225, some (.int q235.1), some (.int x260), some (.ref D265), some v300, some v314, some v329, some u416, y412, none, none, none, none]) rfl ?_
     obtain ⟨s428, hs428, hbe409⟩ := Mi.bnd hbe409
     refine s_join (R := fun σ' H' => ∃ (s429 : Unit), s428 = .inr s429 ∧ σ' = [some v0, some v13, some v30, some v51, some (.ref D59), some (.ref D91), some (.ref p182), some (.ref D193), some v225, some (.int q235.1), some (.int x260), some (.ref D265), some v300, some v314, some v329, some u416, y412, none, none, none, none] ∧ Chg ([] : List Addr) H0 H' ∧ yScr.rep K H' [] v0 d0 ∧ (yLst (yTup (sCons yInt (sOne yInt)))).rep K H' F15 v13 q10.1 ∧ (yFl yInt).rep K H' [] v30 q27.1 ∧ (yLsg (yTup (sCons yStr (sCons yInt (sCons yInt (sCons yInt (sOne (yLst yInt)))))))).rep K H' F53 v51 q48.1 ∧ (yLst (yTupL (ySum yInt (ySum yStr (yObj C_Gate nm_Gate ty_Gate))))).rep K H' [D59] (.ref D59) s58 ∧ (yFl yInt).rep K H' [] (.ref D91) s90 ∧ (yLst (yFl yInt)).rep K H' [p182] (.ref p182) [q134.1, s90, s149] ∧ (yLst (yTup (sCons yInt (sOne yInt)))).rep K H' [D193] (.ref D193) s192 ∧ (yLst yInt).rep K H' F227 v225 s410 ∧ (yFl yInt).rep K H' [] (.ref D265) s264.1 ∧ (yLst yInt).rep K H' F302 v300 q326.2 ∧ (yLst yInt).rep K H' F316 v314 q311.1 ∧ (yLst (yTupL (ySum yInt (ySum yStr (yObj C_Gate nm_Gate ty_Gate))))).rep K H' F331 v329 q326.1 ∧ (yTup (sCons (yLst (yTup (sCons yInt (sOne yInt)))) (sOne (yLst (yFl yInt))))).rep K H' F418 u416 x414 ∧ (yLsg (yTup (sCons (yLst (yTup (sCons yInt (sOne yInt)))) (sOne (yLst (yFl yInt)))))).rep K H' (p397 :: ((F15 ++ [p182]) ++ ([D193] ++ [p354]))) (.ref p397) [(q10.1, [q134.1, s90, s149]), (s192, [s90]), (q10.1, [q134.1, s90, s149])]) (fun nx kx => ?_) (fun σ' H' hj => ?_)
     ·
       refine s_if (ans_t (val_gt (val_lenL r315 (val_var rfl)) val_c)) (fun hb => ?_) (fun hb => ?_)
       ·
         replace hs428 := Mi.ifT hb hs428
         refine q_ifS ?_
         obtain ⟨b430, hb430, hs428⟩ := Mi.bnd hs428
         refine j_tt b430 (R := fun H' => Chg ([] : List Addr) H0 H' ∧ yScr.rep K H' [] v0 d0 ∧ (yLst (yTup (sCons yInt (sOne yInt)))).rep K H' F15 v13 q10.1 ∧ (yFl yInt).rep K H' [] v30 q27.1 ∧ (yLsg (yTup (sCons yStr (sCons yInt (sCons yInt (sCons yInt (sOne (yLst yInt)))))))).rep K H' F53 v51 q48.1 ∧ (yLst (yTupL (ySum yInt (ySum yStr (yObj C_Gate nm_Gate ty_Gate))))).rep K H' [D59] (.ref D59) s58 ∧ (yFl yInt).rep K H' [] (.ref D91) s90 ∧ (yLst (yFl yInt)).rep K H' [p182] (.ref p182) [q134.1, s90, s149] ∧ (yLst (yTup (sCons yInt (sOne yInt)))).rep K H' [D193] (.ref D193) s192 ∧ (yLst yInt).rep K H' F227 v225 s410 ∧ (yFl yInt).rep K H' [] (.ref D265) s264.1 ∧ (yLst yInt).rep K H' F302 v300 q326.2 ∧ (yLst yInt).rep K H' F316 v314 q311.1 ∧ (yLst (yTupL (ySum yInt (ySum yStr (yObj C_Gate nm_Gate ty_Gate))))).rep K H' F331 v329 q326.1 ∧ (yTup (sCons (yLst (yTup (sCons yInt (sOne yInt)))) (sOne (yLst (yFl yInt))))).rep K H' F418 u416 x414 ∧ (yLsg (yTup (sCons (yLst (yTup (sCons yInt (sOne yInt)))) (sOne (yLst (yFl yInt)))))).rep K H' (p397 :: ((F15 ++ [p182]) ++ ([D193] ++ [p354]))) (.ref p397) [(q10.1, [q134.1, s90, s149]), (s192, [s90]), (q10.1, [q134.1, s90, s149])]) (fun Q' kq => ?_) (fun H' hj => ?_)
         ·
           refine w_or ?_
           refine w_not ?_
           refine w_B ?_
           refine w_call ?_
           refine w_cons ?_
           refine c_val (val_var rfl) ?_
           refine w_cons ?_
           refine c_val (val_var rfl) ?_
           refine w_cons ?_
           refine w_cb ?_
           refine w_args (va_cons (val_var rfl) va_nil) ?_
           obtain ⟨x431, hx431, hb430⟩ := Mi.bnd hb430
           refine w_minL r315 hx431 ?_
           refine w_nil ?_
           obtain ⟨q432, hq432, hb430⟩ := Mi.bnd hb430
           refine ⟨v13, F15, q10.1, v329, F331, q326.1, x431, q432, rfl, r14, r330, hq432, fun H434 c433  => ?_⟩
           have r0 := Ty.fz r0 c433
           have r14 := Ty.ex r14 c433
           have r38 := Ty.fz r38 c433
           have r52 := Ty.ex r52 c433
           have r60 := Ty.ex r60 c433
           have r122 := Ty.fz r122 c433
           have r184 := Ty.ex r184 c433
           have r194 := Ty.ex r194 c433
           have r226 := Ty.ex r226 c433
           have r296 := Ty.fz r296 c433
           have r301 := Ty.ex r301 c433
           have r315 := Ty.ex r315 c433
           have r330 := Ty.ex r330 c433
           have r417 := Ty.ex r417 c433
           have r399 := Ty.ex r399 c433
           have c0 := c0.trans c433.none
           refine ⟨_, rfl, ?_⟩
           refine c_if (fun hb => ?_) (fun hb => ?_)
           ·
             replace hb430 := Mi.ifT hb hb430
             obtain rfl := Option.some.inj hb430
             exact kq _ ⟨c0, r0, r14, r38, r52, r60, r122, r184, r194, r226, r296, r301, r315, r330, r417, r399⟩
           replace hb430 := Mi.ifF hb hb430
           refine w_not ?_
           refine w_B ?_
           refine w_call ?_
           refine w_args (va_cons (val_var rfl) (va_cons (val_var rfl) va_nil)) ?_
           obtain ⟨q435, hq435, hb430⟩ := Mi.bnd hb430
           refine ⟨v13, F15, q10.1, v329, F331, q326.1, q435, rfl, r14, r330, hq435, fun H437 c436  => ?_⟩
           have r0 := Ty.fz r0 c436
           have r14 := Ty.ex r14 c436
           have r38 := Ty.fz r38 c436
           have r52 := Ty.ex r52 c436
           have r60 := Ty.ex r60 c436
           have r122 := Ty.fz r122 c436
           have r184 := Ty.ex r184 c436
           have r194 := Ty.ex r194 c436
           have r226 := Ty.ex r226 c436
           have r296 := Ty.fz r296 c436
           have r301 := Ty.ex r301 c436
           have r315 := Ty.ex r315 c436
           have r330 := Ty.ex r330 c436
           have r417 := Ty.ex r417 c436
           have r399 := Ty.ex r399 c436
           have c0 := c0.trans c436.none
           refine ⟨_, rfl, ?_⟩
           obtain rfl := Option.some.inj hb430
           exact kq _ ⟨c0, r0, r14, r38, r52, r60, r122, r184, r194, r226, r296, r301, r315, r330, r417, r399⟩
         obtain ⟨c0, r0, r14, r38, r52, r60, r122, r184, r194, r226, r296, r301, r315, r330, r417, r399⟩ := hj
         refine c_if (fun hb => ?_) (fun hb => ?_)
         ·
           replace hs428 := Mi.ifT hb hs428
           refine q_ret ?_
           refine c_val val_c ?_
           obtain rfl := Option.some.inj hs428
           obtain rfl := Option.some.inj (Mi.orL_inl hbe409)
           obtain rfl := Mi.or_inl hore409
           obtain rfl := Option.some.inj (Mi.orR_inl hm)
           exact hQ _ c0 
         replace hs428 := Mi.ifF hb hs428
         refine w_fall ?_
         refine w_nextJ ?_
         obtain rfl := Option.some.inj hs428
         exact kx _ _ ⟨_, rfl, rfl, c0, r0, r14, r38, r52, r60, r122, r184, r194, r226, r296, r301, r315, r330, r417, r399⟩
       ·
         replace hs428 := Mi.ifF hb hs428
         refine w_nextJ ?_
         obtain rfl := Option.some.inj hs428
         exact kx _ _ ⟨_, rfl, rfl, c0, r0, r14, r38, r52, r60, r122, r184, r194, r226, r296, r301, r315, r330, r417, r399⟩
     obtain ⟨s429, rfl, rfl, c0, r0, r14, r38, r52, r60, r122, r184, r194, r226, r296, r301, r315, r330, r417, r399⟩ := hj
     replace hbe409 := Mi.orL_inr hbe409
     refine q_asg ?_
     refine w_call ?_
     obtain ⟨u438, F439, r440, su441, kx442, ku443⟩ := itm_tup (n := 0) at0 r417
     have d444 : Dj F439 F53 := Dj.sub (d421) su441
     have d445 : Dj F439 [D59] := Dj.sub (d422) su441
     have d446 : Dj F439 F227 := Dj.sub (d423) su441
     have d447 : Dj F439 F302 := Dj.sub (d424) su441
     have d448 : Dj F439 F316 := Dj.sub (d425) su441
     have d449 : Dj F439 F331 := Dj.sub (d426) su441
     have n450 : ∀ a ∈ F439, H0 a = none := fun a h => n427 a (su441 a h)
     refine w_args (va_cons (ku443 (val_var rfl) val_c) (va_cons (val_var rfl) (va_cons (val_var rfl) (va_cons (val_var rfl) va_nil)))) ?_
     obtain ⟨q451, hq451, hbe409⟩ := Mi.bnd hbe409
     refine ⟨u438, F439, x414.1, (.ref D59), [D59], s58, q235.1, x260, q451, rfl, r440, r60, hq451, fun v454 H453 F456 c452 r455 fr457  => ?_⟩
     have d458 : Dj F15 F456 := Ty.fresh r14 fr457
     have d459 : Dj F53 F456 := Ty.fresh r52 fr457
     have d460 : Dj [D59] F456 := Ty.fresh r60 fr457
     have d461 : Dj [p182] F456 := Ty.fresh r184 fr457
     have d462 : Dj [D193] F456 := Ty.fresh r194 fr457
     have d463 : Dj F227 F456 := Ty.fresh r226 fr457
     have d464 : Dj F302 F456 := Ty.fresh r301 fr457
     have d465 : Dj F316 F456 := Ty.fresh r315 fr457
     have d466 : Dj F331 F456 := Ty.fresh r330 fr457
     have d467 : Dj F418 F456 := Ty.fresh r417 fr457
     have d468 : Dj (p397 :: ((F15 ++ [p182]) ++ ([D193] ++ [p354]))) F456 := Ty.fresh r399 fr457
     have n469 : ∀ a ∈ F456, H0 a = none := fun a h => c0.dom a (fr457 a h)
     have r0 := Ty.fz r0 c452
     have r14 := Ty.ex r14 c452
     have r38 := Ty.fz r38 c452
     have r52 := Ty.ex r52 c452
     have r60 := Ty.ex r60 c452
     have r122 := Ty.fz r122 c452
     have r184 := Ty.ex r184 c452
     have r194 := Ty.ex r194 c452
     have r226 := Ty.ex r226 c452
     have r296 := Ty.fz r296 c452
     have r301 := Ty.ex r301 c452
     have r315 := Ty.ex r315 c452
     have r330 := Ty.ex r330 c452
     have r417 := Ty.ex r417 c452
     have r399 := Ty.ex r399 c452
     have c0 := c0.trans c452.none
     refine g_name (σ' := [some v0, some v13, some v30, some v51, some (.ref D59), some (.ref D91), some (.ref p182), some (.ref D193), some v225, some (.int q235.1), some (.int x260), some (.ref D265), some v300, some v314, some v329, some u416, some v454, none, none, none, none]) rfl ?_
     refine q_ifS ?_
     refine w_not ?_
     refine w_B ?_
     refine w_call ?_
     obtain ⟨u470, F471, r472, su473, kx474, ku475⟩ := itm_tup (n := 0) at0 r417
     have d476 : Dj F471 F53 := Dj.sub (d421) su473
     have d477 : Dj F471 [D59] := Dj.sub (d422) su473
     have d478 : Dj F471 F227 := Dj.sub (d423) su473
     have d479 : Dj F471 F302 := Dj.sub (d424) su473
     have d480 : Dj F471 F316 := Dj.sub (d425) su473
     have d481 : Dj F471 F331 := Dj.sub (d426) su473
     have d482 : Dj F471 F456 := Dj.sub (d467) su473
     have n483 : ∀ a ∈ F471, H0 a = none := fun a h => n427 a (su473 a h)
     obtain ⟨u484, F485, r486, su487, kx488, ku489⟩ := itm_tup (n := 1) (atS at1) r417
     have d490 : Dj F485 F53 := Dj.sub (d421) su487
     have d491 : Dj F485 [D59] := Dj.sub (d422) su487
     have d492 : Dj F485 F227 := Dj.sub (d423) su487
     have d493 : Dj F485 F302 := Dj.sub (d424) su487
     have d494 : Dj F485 F316 := Dj.sub (d425) su487
     have d495 : Dj F485 F331 := Dj.sub (d426) su487
     have d496 : Dj F485 F456 := Dj.sub (d467) su487
     have n497 : ∀ a ∈ F485, H0 a = none := fun a h => n427 a (su487 a h)
     refine w_args (va_cons (val_var rfl) (va_cons (val_var rfl) (va_cons (ku475 (val_var rfl) val_c) (va_cons (val_var rfl) (va_cons (ku489 (val_var rfl) val_c) va_nil))))) ?_
     obtain ⟨x498, hx498, hbe409⟩ := Mi.bnd hbe409
     have r499 := opt_some r455 hx498
     obtain ⟨q500, hq500, hbe409⟩ := Mi.bnd hbe409
     refine ⟨v454, F456, x498, v51, F53, q48.1, u470, F471, x414.1, x260, u484, F485, x414.2, q500, rfl, r499.1, r52, r472, r486, hq500, fun H502 c501  => ?_⟩
     have r0 := Ty.fz r0 c501
     have r14 := Ty.ex r14 c501
     have r38 := Ty.fz r38 c501
     have r52 := Ty.ex r52 c501
     have r60 := Ty.ex r60 c501
     have r122 := Ty.fz r122 c501
     have r184 := Ty.ex r184 c501
     have r194 := Ty.ex r194 c501
     have r226 := Ty.ex r226 c501
     have r296 := Ty.fz r296 c501
     have r301 := Ty.ex r301 c501
     have r315 := Ty.ex r315 c501
     have r330 := Ty.ex r330 c501
     have r417 := Ty.ex r417 c501
     have r499 := Ty.ex r499 c501
     have r399 := Ty.ex r399 c501
     have c0 := c0.trans c501.none
     refine ⟨_, rfl, ?_⟩
     refine c_if (fun hb => ?_) (fun hb => ?_)
     ·
       replace hbe409 := Mi.ifT hb hbe409
       refine q_ret ?_
       refine c_val val_c ?_
       obtain rfl := Option.some.inj hbe409
       obtain rfl := Mi.or_inl hore409
       obtain rfl := Option.some.inj (Mi.orR_inl hm)
       exact hQ _ c0 
     replace hbe409 := Mi.ifF hb hbe409
     refine w_fall ?_
     refine q_ifS ?_
     refine w_not ?_
     refine w_B ?_
     refine w_call ?_
     refine w_cons ?_
     refine c_val (val_var rfl) ?_
     refine w_cons ?_
     obtain ⟨u503, u504, F505, F506, r507, r508, r509, s510, s511, d512⟩ := nd_t2 r499
     have d513 : Dj F505 F15 := Dj.sub (d458.symm) s510
     have d514 : Dj F505 F53 := Dj.sub (d459.symm) s510
     have d515 : Dj F505 [D59] := Dj.sub (d460.symm) s510
     have d516 : Dj F505 [p182] := Dj.sub (d461.symm) s510
     have d517 : Dj F505 [D193] := Dj.sub (d462.symm) s510
     have d518 : Dj F505 F227 := Dj.sub (d463.symm) s510
     have d519 : Dj F505 F302 := Dj.sub (d464.symm) s510
     have d520 : Dj F505 F316 := Dj.sub (d465.symm) s510
     have d521 : Dj F505 F331 := Dj.sub (d466.symm) s510
     have d522 : Dj F505 F418 := Dj.sub (d467.symm) s510
     have d523 : Dj F505 (p397 :: ((F15 ++ [p182]) ++ ([D193] ++ [p354]))) := Dj.sub (d468.symm) s510
     have n524 : ∀ a ∈ F505, H0 a = none := fun a h => n469 a (s510 a h)
     have d525 : Dj F506 F15 := Dj.sub (d458.symm) s511
     have d526 : Dj F506 F53 := Dj.sub (d459.symm) s511
     have d527 : Dj F506 [D59] := Dj.sub (d460.symm) s511
     have d528 : Dj F506 [p182] := Dj.sub (d461.symm) s511
     have d529 : Dj F506 [D193] := Dj.sub (d462.symm) s511
     have d530 : Dj F506 F227 := Dj.sub (d463.symm) s511
     have d531 : Dj F506 F302 := Dj.sub (d464.symm) s511
     have d532 : Dj F506 F316 := Dj.sub (d465.symm) s511
     have d533 : Dj F506 F331 := Dj.sub (d466.symm) s511
     have d534 : Dj F506 F418 := Dj.sub (d467.symm) s511
     have d535 : Dj F506 (p397 :: ((F15 ++ [p182]) ++ ([D193] ++ [p354]))) := Dj.sub (d468.symm) s511
     have n536 : ∀ a ∈ F506, H0 a = none := fun a h => n469 a (s511 a h)
     refine c_val (val_rt (n := 0) r507 rfl (val_var rfl) val_c) ?_
     refine w_cons ?_
     refine c_val (val_var rfl) ?_
     refine w_cons ?_
     obtain ⟨u537, F538, r539, su540, kx541, ku542⟩ := itm_tup (n := 0) at0 r417
     have d543 : Dj F538 F53 := Dj.sub (d421) su540
     have d544 : Dj F538 [D59] := Dj.sub (d422) su540
     have d545 : Dj F538 F227 := Dj.sub (d423) su540
     have d546 : Dj F538 F302 := Dj.sub (d424) su540
     have d547 : Dj F538 F316 := Dj.sub (d425) su540
     have d548 : Dj F538 F331 := Dj.sub (d426) su540
     have d549 : Dj F538 F456 := Dj.sub (d467) su540
     have d550 : Dj F538 F505 := Dj.sub (d522.symm) su540
     have d551 : Dj F538 F506 := Dj.sub (d534.symm) su540
     have n552 : ∀ a ∈ F538, H0 a = none := fun a h => n427 a (su540 a h)
     refine c_val (ku542 (val_var rfl) val_c) ?_
     refine w_cons ?_
     refine c_val (val_var rfl) ?_
     refine w_cons ?_
     refine w_lst ?_
     refine w_args (va_cons (val_var rfl) (va_cons (val_var rfl) va_nil)) ?_
     refine e_lst (K := K) (τ := (yFl yInt)) (by exact Nat.le_of_ble_eq_true rfl) (.cons r38 (.cons r296 .nil)) fun p553 H557 np556 c554 r555 => ?_
     have d558 : Dj F15 [p553] := Ty.nin r14 np556
     have d559 : Dj F53 [p553] := Ty.nin r52 np556
     have d560 : Dj [D59] [p553] := Ty.nin r60 np556
     have d561 : Dj [p182] [p553] := Ty.nin r184 np556
     have d562 : Dj [D193] [p553] := Ty.nin r194 np556
     have d563 : Dj F227 [p553] := Ty.nin r226 np556
     have d564 : Dj F302 [p553] := Ty.nin r301 np556
     have d565 : Dj F316 [p553] := Ty.nin r315 np556
     have d566 : Dj F331 [p553] := Ty.nin r330 np556
     have d567 : Dj F418 [p553] := Ty.nin r417 np556
     have d568 : Dj F456 [p553] := Ty.nin r499 np556
     have d569 : Dj (p397 :: ((F15 ++ [p182]) ++ ([D193] ++ [p354]))) [p553] := Ty.nin r399 np556
     have d570 : Dj F505 [p553] := Ty.nin r508 np556
     have d571 : Dj F538 [p553] := Ty.nin r539 np556
     have d572 : Dj F506 [p553] := Ty.nin r509 np556
     have n573 : ∀ a ∈ [p553], H0 a = none := one_fresh (c0.dom p553 np556)
     have r0 := Ty.fz r0 c554
     have r14 := Ty.ex r14 c554
     have r38 := Ty.fz r38 c554
     have r52 := Ty.ex r52 c554
     have r60 := Ty.ex r60 c554
     have r122 := Ty.fz r122 c554
     have r184 := Ty.ex r184 c554
     have r194 := Ty.ex r194 c554
     have r226 := Ty.ex r226 c554
     have r296 := Ty.fz r296 c554
     have r301 := Ty.ex r301 c554
     have r315 := Ty.ex r315 c554
     have r330 := Ty.ex r330 c554
     have r417 := Ty.ex r417 c554
     have r499 := Ty.ex r499 c554
     have r399 := Ty.ex r399 c554
     have r508 := Ty.ex r508 c554
     have r539 := Ty.ex r539 c554
     have r509 := Ty.ex r509 c554
     have r507 := Ty.fz r507 c554
     have c0 := c0.trans c554.none
     refine w_nil ?_
     obtain ⟨q574, hq574, hbe409⟩ := Mi.bnd hbe409
     refine ⟨v225, F227, s410, u503, F505, x498.1, v51, F53, q48.1, u537, F538, x414.1, x260, (.ref p553), [p553], [q27.1, s264.1], q574, rfl, r226, r508, r52, r539, r555, d518.symm, d230.symm, d545.symm, d563, hq574, fun H576 c575 r226 => ?_⟩
     have r0 := Ty.fz r0 c575
     have r14 := Ty.chg r14 c575 d229
     have r38 := Ty.fz r38 c575
     have r52 := Ty.chg r52 c575 d230
     have r60 := Ty.chg r60 c575 d231
     have r122 := Ty.fz r122 c575
     have r184 := Ty.chg r184 c575 d232
     have r194 := Ty.chg r194 c575 d233
     have r296 := Ty.fz r296 c575
     have r301 := Ty.chg r301 c575 d309.symm
     have r315 := Ty.chg r315 c575 d323.symm
     have r330 := Ty.chg r330 c575 d338.symm
     have r417 := Ty.chg r417 c575 d423
     have r499 := Ty.chg r499 c575 d463.symm
     have r399 := Ty.chg r399 c575 d404.symm
     have r508 := Ty.chg r508 c575 d518
     have r509 := Ty.chg r509 c575 d530
     have r507 := Ty.fz r507 c575
     have c0 := c0.join c575 (fun a h => .inr (n234 a h))
     refine ⟨_, rfl, ?_⟩
     refine c_if (fun hb => ?_) (fun hb => ?_)
     ·
       replace hbe409 := Mi.ifT hb hbe409
       refine q_ret ?_
       refine c_val val_c ?_
       obtain rfl := Option.some.inj hbe409
       obtain rfl := Mi.or_inl hore409
       obtain rfl := Option.some.inj (Mi.orR_inl hm)
       exact hQ _ c0 
     replace hbe409 := Mi.ifF hb hbe409
     refine w_fall ?_
     obtain ⟨z579, hz579, hbe409⟩ := Mi.bnd hbe409
     refine q_drop (w_bm (c_val (val_rt (n := 1) r507 rfl (val_var rfl) val_c) ⟨tyv_lst r509, w_args (va_cons val_c va_nil) ?_⟩))
     refine m_appD r509 hz579 fun H578 c577 => ?_
     have r0 := Ty.fz r0 c577
     have r14 := Ty.chg r14 c577 d525.symm
     have r38 := Ty.fz r38 c577
     have r52 := Ty.chg r52 c577 d526.symm
     have r60 := Ty.chg r60 c577 d527.symm
     have r122 := Ty.fz r122 c577
     have r184 := Ty.chg r184 c577 d528.symm
     have r194 := Ty.chg r194 c577 d529.symm
     have r226 := Ty.chg r226 c577 d530.symm
     have r296 := Ty.fz r296 c577
     have r301 := Ty.chg r301 c577 d531.symm
     have r315 := Ty.chg r315 c577 d532.symm
     have r330 := Ty.chg r330 c577 d533.symm
     have r417 := Ty.chg r417 c577 d534.symm
     have r399 := Ty.chg r399 c577 d535.symm
     have r508 := Ty.chg r508 c577 d512
     have r507 := Ty.fz r507 c577
     have c0 := c0.join c577 (fun a h => .inr (n536 a h))
     obtain ⟨s580, hs580, hbe409⟩ := Mi.bnd hbe409
     refine s_join (R := fun σ' H' => σ' = [some v0, some v13, some v30, some v51, some (.ref D59), some (.ref D91), some (.ref p182), some (.ref D193), some v225, some (.int q235.1), some (.int x260), some (.ref D265), some v300, some v314, some v329, some u416, some v454, none, none, none, none] ∧ Chg ([] : List Addr) H0 H' ∧ yScr.rep K H' [] v0 d0 ∧ (yLst (yTup (sCons yInt (sOne yInt)))).rep K H' F15 v13 q10.1 ∧ (yFl yInt).rep K H' [] v30 q27.1 ∧ (yLsg (yTup (sCons yStr (sCons yInt (sCons yInt (sCons yInt (sOne (yLst yInt)))))))).rep K H' F53 v51 q48.1 ∧ (yLst (yTupL (ySum yInt (ySum yStr (yObj C_Gate nm_Gate ty_Gate))))).rep K H' [D59] (.ref D59) s58 ∧ (yFl yInt).rep K H' [] (.ref D91) s90 ∧ (yLst (yFl yInt)).rep K H' [p182] (.ref p182) [q134.1, s90, s149] ∧ (yLst (yTup (sCons yInt (sOne yInt)))).rep K H' [D193] (.ref D193) s192 ∧ (yLst yInt).rep K H' F227 v225 q574.2 ∧ (yFl yInt).rep K H' [] (.ref D265) s264.1 ∧ (yLst yInt).rep K H' F302 v300 q326.2 ∧ (yLst yInt).rep K H' F316 v314 q311.1 ∧ (yLst (yTupL (ySum yInt (ySum yStr (yObj C_Gate nm_Gate ty_Gate))))).rep K H' F331 v329 q326.1 ∧ (yTup (sCons (yLst (yTup (sCons yInt (sOne yInt)))) (sOne (yLst (yFl yInt))))).rep K H' F418 u416 x414 ∧ (yLsg (yTup (sCons (yLst (yTup (sCons yInt (sOne yInt)))) (sOne (yLst (yFl yInt)))))).rep K H' (p397 :: ((F15 ++ [p182]) ++ ([D193] ++ [p354]))) (.ref p397) [(q10.1, [q134.1, s90, s149]), (s192, [s90]), (q10.1, [q134.1, s90, s149])] ∧ (yRt [u503, u504]).rep K H' [] v454 ()) (fun nx kx => ?_) (fun σ' H' hj => ?_)
     ·
       refine s_if (ans_t (val_notN r508 (val_rt (n := 0) r507 rfl (val_var rfl) val_c))) (fun hb => ?_) (fun hb => ?_)
       ·
         replace hs580 := Mi.ifT hb hs580
         obtain ⟨x583, hx583, hs580⟩ := Mi.bnd hs580
         have r584 := opt_some r508 hx583
         obtain ⟨x585, hx585, hs580⟩ := Mi.bnd hs580
         refine q_drop (w_bm (c_val (val_rt (n := 0) r507 rfl (val_var rfl) val_c) ⟨tyv_lst r584, w_args (va_cons val_c va_nil) ?_⟩))
         refine m_app r584 yInt_i hx585 fun H582 c581 r584 => ?_
         have r0 := Ty.fz r0 c581
         have r14 := Ty.chg r14 c581 d513.symm
         have r38 := Ty.fz r38 c581
         have r52 := Ty.chg r52 c581 d514.symm
         have r60 := Ty.chg r60 c581 d515.symm
         have r122 := Ty.fz r122 c581
         have r184 := Ty.chg r184 c581 d516.symm
         have r194 := Ty.chg r194 c581 d517.symm
         have r226 := Ty.chg r226 c581 d518.symm
         have r296 := Ty.fz r296 c581
         have r301 := Ty.chg r301 c581 d519.symm
         have r315 := Ty.chg r315 c581 d520.symm
         have r330 := Ty.chg r330 c581 d521.symm
         have r417 := Ty.chg r417 c581 d522.symm
         have r399 := Ty.chg r399 c581 d523.symm
         have r507 := Ty.fz r507 c581
         have c0 := c0.join c581 (fun a h => .inr (n524 a h))
         refine w_nextJ ?_
         obtain rfl := Option.some.inj hs580
         exact kx _ _ ⟨rfl, c0, r0, r14, r38, r52, r60, r122, r184, r194, r226, r296, r301, r315, r330, r417, r399, r507⟩
       ·
         replace hs580 := Mi.ifF hb hs580
         refine w_nextJ ?_
         obtain rfl := Option.some.inj hs580
         exact kx _ _ ⟨rfl, c0, r0, r14, r38, r52, r60, r122, r184, r194, r226, r296, r301, r315, r330, r417, r399, r507⟩
     obtain ⟨rfl, c0, r0, r14, r38, r52, r60, r122, r184, r194, r226, r296, r301, r315, r330, r417, r399, r507⟩ := hj
     refine w_nextJ ?_
     obtain rfl := Option.some.inj hbe409
     replace hore409 := Mi.or_inr hore409
     exact ⟨_, (some u416), (some v454), rfl, c0, r0, r14, r38, r52, r60, r122, r184, r194, r226, r296, r301, r315, r330, r399, hore409⟩
   obtain ⟨s410, y411, y412, rfl, c0, r0, r14, r38, r52, r60, r122, r184, r194, r226, r296, r301, r315, r330, r399, hle409⟩ := hp
   obtain rfl := Mi.forR_end hle409
   replace hm := Mi.orR_inr hm
   refine q_ret ?_
   obtain ⟨b586, hb586, hm⟩ := Mi.bnd hm
   refine j_te (.bl b586) (R := fun H' => Chg ([] : List Addr) H0 H' ∧ yScr.rep K H' [] v0 d0 ∧ (yLst (yTup (sCons yInt (sOne yInt)))).rep K H' F15 v13 q10.1 ∧ (yFl yInt).rep K H' [] v30 q27.1 ∧ (yLsg (yTup (sCons yStr (sCons yInt (sCons yInt (sCons yInt (sOne (yLst yInt)))))))).rep K H' F53 v51 q48.1 ∧ (yLst (yTupL (ySum yInt (ySum yStr (yObj C_Gate nm_Gate ty_Gate))))).rep K H' [D59] (.ref D59) s58 ∧ (yFl yInt).rep K H' [] (.ref D91) s90 ∧ (yLst (yFl yInt)).rep K H' [p182] (.ref p182) [q134.1, s90, s149] ∧ (yLst (yTup (sCons yInt (sOne yInt)))).rep K H' [D193] (.ref D193) s192 ∧ (yLst yInt).rep K H' F227 v225 s410 ∧ (yFl yInt).rep K H' [] (.ref D265) s264.1 ∧ (yLst yInt).rep K H' F302 v300 q326.2 ∧ (yLst yInt).rep K H' F316 v314 q311.1 ∧ (yLst (yTupL (ySum yInt (ySum yStr (yObj C_Gate nm_Gate ty_Gate))))).rep K H' F331 v329 q326.1) (fun Q' kq => ?_) (fun H' hj => ?_)
   ·
     refine w_andV ?_
     refine w_call ?_
     refine w_args (va_cons (val_var rfl) (va_cons (val_var rfl) va_nil)) ?_
     obtain ⟨q587, hq587, hb586⟩ := Mi.bnd hb586
     refine ⟨(.ref D59), [D59], s58, v51, F53, q48.1, q587, rfl, r60, r52, hq587, fun H589 c588  => ?_⟩
     have r0 := Ty.fz r0 c588
     have r14 := Ty.ex r14 c588
     have r38 := Ty.fz r38 c588
     have r52 := Ty.ex r52 c588
     have r60 := Ty.ex r60 c588
     have r122 := Ty.fz r122 c588
     have r184 := Ty.ex r184 c588
     have r194 := Ty.ex r194 c588
     have r226 := Ty.ex r226 c588
     have r296 := Ty.fz r296 c588
     have r301 := Ty.ex r301 c588
     have r315 := Ty.ex r315 c588
     have r330 := Ty.ex r330 c588
     have c0 := c0.trans c588.none
     refine ⟨_, rfl, ?_⟩
     refine c_if (fun hb => ?_) (fun hb => ?_)
     rotate_left
     ·
       replace hb586 := Mi.ifF hb hb586
       obtain rfl := Option.some.inj hb586
       exact kq _ ⟨c0, r0, r14, r38, r52, r60, r122, r184, r194, r226, r296, r301, r315, r330⟩
     replace hb586 := Mi.ifT hb hb586
     refine w_call ?_
     refine w_args va_nil ?_
     obtain ⟨q590, hq590, hb586⟩ := Mi.bnd hb586
     refine ⟨q590, rfl, hq590, fun H592 c591  => ?_⟩
     have r0 := Ty.fz r0 c591
     have r14 := Ty.ex r14 c591
     have r38 := Ty.fz r38 c591
     have r52 := Ty.ex r52 c591
     have r60 := Ty.ex r60 c591
     have r122 := Ty.fz r122 c591
     have r184 := Ty.ex r184 c591
     have r194 := Ty.ex r194 c591
     have r226 := Ty.ex r226 c591
     have r296 := Ty.fz r296 c591
     have r301 := Ty.ex r301 c591
     have r315 := Ty.ex r315 c591
     have r330 := Ty.ex r330 c591
     have c0 := c0.trans c591.none
     obtain rfl := Option.some.inj hb586
     exact kq _ ⟨c0, r0, r14, r38, r52, r60, r122, r184, r194, r226, r296, r301, r315, r330⟩
   obtain ⟨c0, r0, r14, r38, r52, r60, r122, r184, r194, r226, r296, r301, r315, r330⟩ := hj
   obtain rfl := Option.some.inj hm
   exact hQ _ c0 
end
end G
set_option maxHeartbeats 0
namespace G
open PySem PySem.Spec PyProof.Rows L2
theorem fun_of {K : PySem.W.Frag} {x q : Str} {st : Stmt} {f : Addr} {fd : FuncData} (F : FunD K x q (defArgs st) (defBody st) (defScope st) [] [] f fd) : Fun K x q st f fd := by
 obtain ⟨oc, od, dV, kV, doc, pm, an, cdv, ct, osl, e, lk, hcd, hd, _⟩ := F.ex
 rcases hd with ⟨_, rfl⟩ | ⟨z, _⟩
 · exact ⟨⟨oc, od, kV, doc, pm, an, cdv, ct, osl, e, lk, hcd⟩, F.kp⟩
 · exact absurd rfl z
def dOf (x : Str) (i : Nat) : He.DefD := ⟨(x, none), x, x, defArgs (topS i), defBody (topS i), defScope (topS i), [], []⟩
def dOfD (x : Str) (i : Nat) (dv : List He.Dv) : He.DefD := ⟨(x, none), x, x, defArgs (topS i), defBody (topS i), defScope (topS i), dv, []⟩
def dOfM (c m qual : Str) (st : Stmt) (kw : List (Str × He.Dv)) : He.DefD := ⟨(c, some m), m, qual, defArgs st, defBody st, defScope st, [], kw⟩
def fnL : List He.DefD := [dOfM "Gate" "__init__" "Gate.__init__" s_Gate_init [], dOfM "Gate" "__contains__" "Gate.__contains__" s_Gate_contains [], dOfM "Gate" "__iter__" "Gate.__iter__" s_Gate_iter [], dOf "is_order" 31, dOf "check_orders" 32, dOfM "Gate" "first_from" "Gate.first_from" s_Gate_first_from [], dOf "opening" 2, dOfM "Gate" "shrunk" "Gate.shrunk" s_Gate_shrunk [], dOf "asked" 3, dOf "gated" 34, dOfD "least_schedule" 35 [.int 48], dOf "_law_hand" 39, dOf "_law_pick" 40, dOf "_law_int" 41, dOf "_law_sailings" 42, dOf "_law_schedule" 43, dOf "_law_legs" 44, dOf "_law_gate_hours" 45, dOf "_law_number" 46, dOf "_law_plain" 47, dOf "_law_plains" 48, dOf "_law_order" 49, dOf "_law_words" 50, dOf "_law_gates_stay" 51, dOf "_law_keeps" 52, dOf "_law_all_within" 53, dOf "_law_always" 54, dOf "_law_spoilt" 55, dOf "_law_places" 56, dOf "_law_spoil" 57, dOf "_law_asks" 58, dOf "_law_walk" 59, dOf "_law_schedule_holds" 60, dOf "_law_answer_holds" 61, dOf "_law_not_below" 62, dOf "_law_lowered" 63, dOf "_law_told" 64, dOf "_law_rivals_hold" 65, dOf "_law_refused" 66, dOf "_law_refused_by_base" 67, dOf "_law_nothing_holds" 68, dOf "law" 69]
def faL : List He.Fa := [.mkr "Gate", .meth "Gate" "__contains__", .meth "Gate" "__iter__", .glo "is_order", .glo "check_orders", .meth "Gate" "first_from", .glo "opening", .meth "Gate" "shrunk", .glo "asked", .glo "gated", .glo "least_schedule", .glo "_law_hand", .glo "_law_pick", .glo "_law_int", .glo "_law_sailings", .glo "_law_schedule", .glo "_law_legs", .glo "_law_gate_hours", .glo "_law_number", .glo "_law_plain", .glo "_law_plains", .glo "_law_order", .glo "_law_words", .glo "_law_gates_stay", .glo "_law_keeps", .glo "_law_all_within", .glo "_law_always", .glo "_law_spoilt", .glo "_law_places", .glo "_law_spoil", .glo "_law_asks", .glo "_law_walk", .glo "_law_schedule_holds", .glo "_law_answer_holds", .glo "_law_not_below", .glo "_law_lowered", .glo "_law_told", .glo "_law_rivals_hold", .glo "_law_refused", .glo "_law_refused_by_base", .glo "_law_nothing_holds", .glo "law", .free "len", .free "range", .free "int", .free "bool", .free "isinstance", .free "max", .free "min", .free "list", .free "tuple", .free "sorted", .free "set", .free "enumerate", .free "zip", .free "reversed", .free "sum", .free "any", .free "all", .free "str", .free "iter", .glo "Gate", .cls "Gate", .noat "Gate" "hours", .free "super", .glo "InvalidOrder", .glo "LONE_WORDS", .glo "PAIR_WORDS", .glo "FleetError", .free "ValueError", .glo "InvalidSetting", .glo "InvalidLetter", .glo "InvalidReport", .glo "InvalidLight", .glo "InvalidShip", .glo "InvalidChart", .glo "NoWorld", .glo "NoRun", .glo "DoesNotFit", .glo "NoSuchNumber", .glo "NoDriving", .glo "NotInPlay", .glo "InvalidReceipt", .glo "UnknownEntry", .glo "Contradiction", .glo "BadClaim", .glo "BadText", .glo "InvalidStay", .glo "NoWay", .glo "NothingToRedo", .glo "NothingToUndo"]
abbrev R : PySem.W.OpenRow := PySem.W.OpenLaw.row PySem.Challenge.rw_fogfleet_k63_whole_least_schedule
def aL : List Addr := (List.range 1000).reverse
def exL (K : PySem.W.Frag) : Bool := decide (tupAt K (He.ga K "LONE_WORDS") (([([98, 121] : List Nat), ([102, 114, 111, 109] : List Nat), ([103, 97, 116, 101] : List Nat), ([98, 97, 114] : List Nat)] : List (List Nat)).map fun s => He.Dv.str (toS s)) = true) && decide (tupAt K (He.ga K "PAIR_WORDS") (([([97, 102, 116, 101, 114] : List Nat), ([119, 105, 116, 104] : List Nat), ([108, 97, 110, 100, 115] : List Nat)] : List (List Nat)).map fun s => He.Dv.str (toS s)) = true) && decide (PySem.W.findIn K (.ref (He.ga K "InvalidOrder")) "index" = some none) && decide (PySem.W.exmOne K (.ref (He.ga K "InvalidOrder")) (.ref (He.ga K "InvalidOrder")) = some true) && decide (PySem.W.exmOne K (.ref (He.ga K "InvalidOrder")) (.ref (He.ga K "FleetError")) = some true) && decide (PySem.W.kitOne K (.ref (He.ga K "InvalidOrder")) (.ref (He.ga K "InvalidOrder")) = some true) && decide (PySem.W.kitOne K (.ref (He.ga K "InvalidOrder")) (.type "ValueError") = some true) && decide (PySem.W.kitAny K (.ref (He.ga K "InvalidOrder")) [(.ref (He.ga K "InvalidChart")), (.ref (He.ga K "InvalidShip")), (.ref (He.ga K "InvalidLight")), (.ref (He.ga K "InvalidReport")), (.ref (He.ga K "InvalidLetter")), (.ref (He.ga K "InvalidSetting"))] = some false) && decide (PySem.W.kitAny K (.ref (He.ga K "InvalidOrder")) [(.ref (He.ga K "InvalidReceipt")), (.ref (He.ga K "NotInPlay")), (.ref (He.ga K "NoDriving")), (.ref (He.ga K "NoSuchNumber")), (.ref (He.ga K "DoesNotFit")), (.ref (He.ga K "NoRun")), (.ref (He.ga K "NoWorld"))] = some false) && decide (PySem.W.kitAny K (.ref (He.ga K "InvalidOrder")) [(.ref (He.ga K "NoWay")), (.ref (He.ga K "InvalidStay")), (.ref (He.ga K "BadText")), (.ref (He.ga K "BadClaim")), (.ref (He.ga K "Contradiction")), (.ref (He.ga K "UnknownEntry"))] = some false) && decide (PySem.W.kitAny K (.ref (He.ga K "InvalidOrder")) [(.ref (He.ga K "NothingToUndo")), (.ref (He.ga K "NothingToRedo"))] = some false)
def erL : List ErrD := [⟨"InvalidOrder", "InvalidOrder.__init__", inClass (topS 18) 0⟩]
def fileS : Str := R.prog.main.file
noncomputable abbrev hk : PySem.W.Hook := hookXL aL faL fnL exL fileS erL
noncomputable def ob (s : PySem.W.SharedT) : AlX := obsXGL aL faL fnL exL fileS erL (HandSHeadRun.getT s)
theorem ob_eq (s : PySem.W.SharedT) : ob s = hk.obs s.abs := obsXGL_eq (HandSHeadRun.getT_eq s)
def looseL : List Str := (["_wall", "opening", "asked", "FleetError", "InvalidChart", "InvalidShip", "InvalidLight", "InvalidReport", "InvalidLetter", "InvalidSetting", "InvalidReceipt", "NotInPlay", "NoDriving", "NoSuchNumber", "DoesNotFit", "NoWay", "InvalidOrder", "InvalidStay", "BadText", "BadClaim"] : List Str) ++ (["UnknownEntry", "NoRun", "NoWorld", "Contradiction", "NothingToUndo", "NothingToRedo", "PAIR_WORDS", "LONE_WORDS", "is_order", "check_orders", "gated", "least_schedule", "Gate", "_law_hand", "_law_pick", "_law_int", "_law_sailings", "_law_schedule", "_law_legs", "_law_gate_hours"] : List Str) ++ (["_law_number", "_law_plain", "_law_plains", "_law_order", "_law_words", "_law_gates_stay", "_law_keeps", "_law_all_within", "_law_always", "_law_spoilt", "_law_places", "_law_spoil", "_law_asks", "_law_walk", "_law_schedule_holds", "_law_answer_holds", "_law_not_below", "_law_lowered", "_law_told", "_law_rivals_hold"] : List Str) ++ (["_law_refused", "_law_refused_by_base", "_law_nothing_holds"] : List Str)
theorem run (w : World) : HandSHeadRun.RunEq R (PySem.W.view R.prog [69]) hk ob 40000 looseL w := by
 intro os
 kernel_rfl
theorem dfn_of {K : PySem.W.Frag} {h : Heap} {mg : Str → Option Value} (X : K.In h) (G : h.Ns mainGlobals mg) (c : He.SaysD faL fnL K) (i j k : Nat) (x : Str) (hi : fnL[i]? = some (dOf x k)) (hj : faL[j]? = some (.glo x)) : Dfn K mg x (topS k) := by
 obtain ⟨fd, F⟩ := c.def_ i hi
 exact ⟨⟨_, fd, fun_of F, He.glo_ok X G (c.fact j hj)⟩⟩
theorem dfnD_of {K : PySem.W.Frag} {h : Heap} {mg : Str → Option Value} (X : K.In h) (G : h.Ns mainGlobals mg) (c : He.SaysD faL fnL K) (i j k : Nat) (x : Str) (dv : List He.Dv) (hi : fnL[i]? = some (dOfD x k dv)) (hj : faL[j]? = some (.glo x)) : DfnD K mg x (topS k) (dv.map (He.Dv.v K)) := by
 obtain ⟨fd, F⟩ := c.def_ i hi
 exact ⟨⟨_, fd, F, He.glo_ok X G (c.fact j hj)⟩⟩
theorem dfnM_of {K : PySem.W.Frag} (c : He.SaysD faL fnL K) (i j : Nat) (C m qual : Str) (st : Stmt) (hi : fnL[i]? = some (dOfM C m qual st [])) (hj : faL[j]? = some (.meth C m)) : DfnM K (He.ga K C) m qual st := by
 obtain ⟨fd, F⟩ := c.def_ i hi
 exact ⟨⟨_, fd, fun_of F, He.meth_ok (c.fact j hj)⟩⟩
theorem dfnI_of {K : PySem.W.Frag} (c : He.SaysD faL fnL K) (i j : Nat) (C qual : Str) (st : Stmt) (kw : List (Str × He.Dv)) (hi : fnL[i]? = some (dOfM C "__init__" qual st kw)) (hj : faL[j]? = some (.mkr C)) : DfnI K (He.ga K C) qual st (kw.map fun q => (q.1, q.2.v K)) := by
 obtain ⟨fd, F⟩ := c.def_ i hi
 exact ⟨⟨_, fd, F, He.mkr_ok (c.fact j hj)⟩⟩
theorem facts {P : Program} {w : World} {K : PySem.W.Frag} {h : Heap} {mg : Str → Option Value} (X : K.In h) (G : h.Ns mainGlobals mg) (cx : SaysX faL fnL exL fileS erL K) (hp1 : (P.main.scope.names.lookup ("super" : Str)).isSome = false) (hp2 : (P.main.file : Str) = fileS) {fa : Addr} (hfa : mg ("law" : Str) = some (.ref fa)) :
   ∃ fd : FuncData, (∀ (s : Shared) (v : Value), BindsTo s fd ⟨[v], []⟩ [("_law_script", v)]) ∧ ∀ base : Heap, K.In base → base.Ns mainGlobals mg → FnOk P w K mg base CX0 8 fa fd ["_law_script"] (sp_law K) := by
 have c := cx.d
 have ce := cx.e
 have B : Bi mg := ⟨He.free_ok X G (c.fact 42 rfl), He.free_ok X G (c.fact 43 rfl), He.free_ok X G (c.fact 44 rfl), He.free_ok X G (c.fact 45 rfl), He.free_ok X G (c.fact 46 rfl), He.free_ok X G (c.fact 47 rfl), He.free_ok X G (c.fact 48 rfl), He.free_ok X G (c.fact 49 rfl), He.free_ok X G (c.fact 50 rfl), He.free_ok X G (c.fact 51 rfl), He.free_ok X G (c.fact 52 rfl), He.free_ok X G (c.fact 53 rfl), He.free_ok X G (c.fact 54 rfl), He.free_ok X G (c.fact 55 rfl), He.free_ok X G (c.fact 56 rfl), He.free_ok X G (c.fact 57 rfl), He.free_ok X G (c.fact 58 rfl), He.free_ok X G (c.fact 59 rfl)⟩
 obtain ⟨ce10_, ce10⟩ := He.ba (show (_ && _) = true from ce)
 obtain ⟨ce9_, ce9⟩ := He.ba (show (_ && _) = true from ce10_)
 obtain ⟨ce8_, ce8⟩ := He.ba (show (_ && _) = true from ce9_)
 obtain ⟨ce7_, ce7⟩ := He.ba (show (_ && _) = true from ce8_)
 obtain ⟨ce6_, ce6⟩ := He.ba (show (_ && _) = true from ce7_)
 obtain ⟨ce5_, ce5⟩ := He.ba (show (_ && _) = true from ce6_)
 obtain ⟨ce4_, ce4⟩ := He.ba (show (_ && _) = true from ce5_)
 obtain ⟨ce3_, ce3⟩ := He.ba (show (_ && _) = true from ce4_)
 obtain ⟨ce2_, ce2⟩ := He.ba (show (_ && _) = true from ce3_)
 obtain ⟨ce1_, ce1⟩ := He.ba (show (_ && _) = true from ce2_)
 have ce0 := ce1_
 obtain ⟨T_InvalidOrder, XK_InvalidOrder⟩ := err_of_index (P := P) (d := ⟨"InvalidOrder", "InvalidOrder.__init__", inClass (topS 18) 0⟩) X G (cx.err 0 rfl).1 (cx.err 0 rfl).2 (c.fact 65 rfl) (c.fact 64 rfl) (c.fact 59 rfl) (of_decide_eq_true ce2) hp1 hp2 ⟨_, _, _, _, _, _, _, _, _, _, _, _, _, _, _, _, _, rfl, rfl, rfl, by decide +kernel, fun L f cda cc => ⟨_, rfl⟩⟩
 have CN : Cs K mg := ⟨He.free_ok X G (c.fact 60 rfl), of_decide_eq_true ce0, He.glo_ok X G (c.fact 66 rfl), of_decide_eq_true ce1, He.glo_ok X G (c.fact 67 rfl), of_decide_eq_true ce2, He.glo_ok X G (c.fact 65 rfl), of_decide_eq_true ce3, XK_InvalidOrder, He.glo_ok X G (c.fact 68 rfl), of_decide_eq_true ce4, of_decide_eq_true ce5, of_decide_eq_true ce6, He.free_ok X G (c.fact 69 rfl), of_decide_eq_true ce7, He.glo_ok X G (c.fact 70 rfl), He.glo_ok X G (c.fact 71 rfl), He.glo_ok X G (c.fact 72 rfl), He.glo_ok X G (c.fact 73 rfl), He.glo_ok X G (c.fact 74 rfl), He.glo_ok X G (c.fact 75 rfl), of_decide_eq_true ce8, He.glo_ok X G (c.fact 76 rfl), He.glo_ok X G (c.fact 77 rfl), He.glo_ok X G (c.fact 78 rfl), He.glo_ok X G (c.fact 79 rfl), He.glo_ok X G (c.fact 80 rfl), He.glo_ok X G (c.fact 81 rfl), He.glo_ok X G (c.fact 82 rfl), of_decide_eq_true ce9, He.glo_ok X G (c.fact 83 rfl), He.glo_ok X G (c.fact 84 rfl), He.glo_ok X G (c.fact 85 rfl), He.glo_ok X G (c.fact 86 rfl), He.glo_ok X G (c.fact 87 rfl), He.glo_ok X G (c.fact 88 rfl), of_decide_eq_true ce10, He.glo_ok X G (c.fact 89 rfl), He.glo_ok X G (c.fact 90 rfl)⟩
 have T_Gate : Tx K mg (He.ga K "Gate") "Gate" nm_Gate := ⟨He.cls_ok (c.fact 62 rfl), He.glo_ok X G (c.fact 61 rfl), fun f hf => by
   simp only [List.mem_cons, List.not_mem_nil, or_false] at hf
   rcases hf with rfl
   · exact He.noat_ok (c.fact 63 rfl)⟩
 have I_Gate : CalI P w K mg (He.ga K "Gate") "Gate.__init__" s_Gate_init (kw_Gate K) ["self", "hours"] 1 (sp_Gate_init K (He.ga K "Gate")) := ok_Gate_init B CN T_Gate (dfnI_of c 0 0 "Gate" "Gate.__init__" s_Gate_init [] rfl rfl)
 have M_Gate_contains : CalM P w K mg (He.ga K "Gate") "__contains__" ["self", "hour"] 1 (sp_Gate_contains K (He.ga K "Gate")) := ok_Gate_contains B CN T_Gate (dfnM_of c 1 1 "Gate" "__contains__" "Gate.__contains__" s_Gate_contains rfl rfl)
 have It_Gate : CalIt P w K mg (He.ga K "Gate") "hours" 1 := ok_Gate_iter B CN T_Gate (dfnM_of c 2 2 "Gate" "__iter__" "Gate.__iter__" s_Gate_iter rfl rfl)
 have C_is_order : Cal P w K mg "is_order" ["sailings", "order"] 1 (sp_is_order K (He.ga K "Gate")) := ok_is_order B CN (dfn_of X G c 3 3 31 "is_order" rfl rfl) T_Gate
 have C_check_orders : Cal P w K mg "check_orders" ["sailings", "orders"] 2 (sp_check_orders K (He.ga K "Gate")) := ok_check_orders B CN (dfn_of X G c 4 4 32 "check_orders" rfl rfl) T_Gate C_is_order
 have C_check_orders_x : CalXN P w K mg "check_orders" ["sailings", "orders"] 2 (sp_check_orders_x K (He.ga K "Gate")) := ok_check_orders_x B CN (dfn_of X G c 4 4 32 "check_orders" rfl rfl) T_Gate T_InvalidOrder C_is_order
 have M_Gate_first_from : CalM P w K mg (He.ga K "Gate") "first_from" ["self", "hour"] 1 (sp_Gate_first_from K (He.ga K "Gate")) := ok_Gate_first_from B CN T_Gate (dfnM_of c 5 5 "Gate" "first_from" "Gate.first_from" s_Gate_first_from rfl rfl)
 have C_opening : Cal P w K mg "opening" ["gate", "hour", "last"] 2 (sp_opening K (He.ga K "Gate")) := ok_opening B CN (dfn_of X G c 6 6 2 "opening" rfl rfl) T_Gate M_Gate_first_from
 have M_Gate_shrunk : CalM P w K mg (He.ga K "Gate") "shrunk" ["self", "low", "high"] 3 (sp_Gate_shrunk K (He.ga K "Gate")) := ok_Gate_shrunk B CN T_Gate I_Gate (dfnM_of c 7 7 "Gate" "shrunk" "Gate.shrunk" s_Gate_shrunk rfl rfl)
 have C_asked : Cal P w K mg "asked" ["sailings", "order", "hours", "last"] 4 (sp_asked K (He.ga K "Gate")) := ok_asked B CN (dfn_of X G c 8 8 3 "asked" rfl rfl) T_Gate C_opening M_Gate_shrunk
 have C_gated : Cal P w K mg "gated" ["sailings", "order"] 4 (sp_gated K (He.ga K "Gate")) := ok_gated B CN (dfn_of X G c 9 9 34 "gated" rfl rfl) T_Gate M_Gate_shrunk
 have C_least_schedule : CalD P w K mg "least_schedule" s_least_schedule dv_least_schedule ["sailings", "orders", "last"] 5 (sp_least_schedule K (He.ga K "Gate")) := ok_least_schedule B CN (dfnD_of X G c 10 10 35 "least_schedule" [.int 48] rfl rfl) T_Gate C_check_orders C_asked C_gated
 have C_least_schedule_x : CalDN P w K mg "least_schedule" s_least_schedule_x dv_least_schedule_x ["sailings", "orders", "last"] 5 (sp_least_schedule_x K (He.ga K "Gate")) := ok_least_schedule_x B CN (dfnD_of X G c 10 10 35 "least_schedule" [.int 48] rfl rfl) T_Gate C_check_orders_x C_asked C_gated
 have C_l_hand : Cal P w K mg "_law_hand" ["_law_script", "_law_k"] 1 (sp_l_hand K) := ok_l_hand B CN (dfn_of X G c 11 11 39 "_law_hand" rfl rfl)
 have C_l_pick : Cal P w K mg "_law_pick" ["_law_hand_here", "_law_size"] 1 (sp_l_pick K) := ok_l_pick B CN (dfn_of X G c 12 12 40 "_law_pick" rfl rfl)
 have C_l_int : Cal P w K mg "_law_int" ["_law_x"] 1 (sp_l_int K) := ok_l_int B CN (dfn_of X G c 13 13 41 "_law_int" rfl rfl)
 have H_l_int : CalH P w K mg "_law_int" ["_law_x"] 1 (sp_l_int K) := okH_l_int B CN (dfn_of X G c 13 13 41 "_law_int" rfl rfl)
 have C_l_sailings : Cal P w K mg "_law_sailings" ["_law_hand_here"] 2 (sp_l_sailings K) := ok_l_sailings B CN (dfn_of X G c 14 14 42 "_law_sailings" rfl rfl) C_l_pick
 have C_l_schedule : Cal P w K mg "_law_schedule" ["_law_hand_here", "_law_count"] 2 (sp_l_schedule K) := ok_l_schedule B CN (dfn_of X G c 15 15 43 "_law_schedule" rfl rfl) C_l_pick
 have C_l_legs : Cal P w K mg "_law_legs" ["_law_hand_here", "_law_sailings_here"] 2 (sp_l_legs K) := ok_l_legs B CN (dfn_of X G c 16 16 44 "_law_legs" rfl rfl) C_l_pick
 have C_l_gate_hours : Cal P w K mg "_law_gate_hours" ["_law_hand_here", "_law_near", "_law_width", "_law_kept"] 2 (sp_l_gate_hours K) := ok_l_gate_hours B CN (dfn_of X G c 17 17 45 "_law_gate_hours" rfl rfl) C_l_pick
 have C_l_number : Cal P w K mg "_law_number" ["_law_hand_here", "_law_edge", "_law_sign", "_law_kept", "_law_least", "_law_most"] 2 (sp_l_number K) := ok_l_number B CN (dfn_of X G c 18 18 46 "_law_number" rfl rfl) C_l_pick
 have C_l_plain : Cal P w K mg "_law_plain" ["_law_hand_here", "_law_spans", "_law_schedule_here", "_law_kept"] 3 (sp_l_plain K) := ok_l_plain B CN (dfn_of X G c 19 19 47 "_law_plain" rfl rfl) C_l_pick C_l_gate_hours C_l_number
 have C_l_plains : Cal P w K mg "_law_plains" ["_law_hand_here", "_law_spans", "_law_schedule_here"] 4 (sp_l_plains K) := ok_l_plains B CN (dfn_of X G c 20 20 48 "_law_plains" rfl rfl) C_l_pick C_l_plain
 have C_l_order : Cal P w K mg "_law_order" ["_law_plain_here"] 3 (sp_l_order K (He.ga K "Gate")) := ok_l_order B CN (dfn_of X G c 21 21 49 "_law_order" rfl rfl) T_Gate I_Gate
 have C_l_words : Cal P w K mg "_law_words" ["_law_orders"] 1 (sp_l_words K (He.ga K "Gate")) := ok_l_words B CN (dfn_of X G c 22 22 50 "_law_words" rfl rfl) T_Gate
 have C_l_gates_stay : Cal P w K mg "_law_gates_stay" ["_law_orders", "_law_plains_here"] 1 (sp_l_gates_stay K (He.ga K "Gate")) := ok_l_gates_stay B CN (dfn_of X G c 23 23 51 "_law_gates_stay" rfl rfl) T_Gate
 have C_l_keeps : Cal P w K mg "_law_keeps" ["_law_plain_here", "_law_schedule_here", "_law_legs_here"] 1 (sp_l_keeps K) := ok_l_keeps B CN (dfn_of X G c 24 24 52 "_law_keeps" rfl rfl)
 have C_l_all_within : Cal P w K mg "_law_all_within" ["_law_hours", "_law_x", "_law_low", "_law_high"] 1 (sp_l_all_within K) := ok_l_all_within B CN (dfn_of X G c 25 25 53 "_law_all_within" rfl rfl)
 have C_l_always : Cal P w K mg "_law_always" ["_law_plain_here", "_law_sailings_here", "_law_schedule_here"] 2 (sp_l_always K) := ok_l_always B CN (dfn_of X G c 26 26 54 "_law_always" rfl rfl) C_l_all_within
 have C_l_spoilt : Cal P w K mg "_law_spoilt" ["_law_hand_here", "_law_order_here", "_law_count"] 2 (sp_l_spoilt K (He.ga K "Gate")) := ok_l_spoilt B CN (dfn_of X G c 27 27 55 "_law_spoilt" rfl rfl) T_Gate C_l_pick
 have C_l_places : Cal P w K mg "_law_places" ["_law_hand_here", "_law_count"] 2 (sp_l_places K) := ok_l_places B CN (dfn_of X G c 28 28 56 "_law_places" rfl rfl) C_l_pick
 have C_l_spoil : Cal P w K mg "_law_spoil" ["_law_hand_here", "_law_orders", "_law_places_here", "_law_count"] 3 (sp_l_spoil K (He.ga K "Gate")) := ok_l_spoil B CN (dfn_of X G c 29 29 57 "_law_spoil" rfl rfl) T_Gate C_l_spoilt
 have C_l_asks : Cal P w K mg "_law_asks" ["_law_plain_here", "_law_sailings_here", "_law_hours", "_law_last"] 2 (sp_l_asks K) := ok_l_asks B CN (dfn_of X G c 30 30 58 "_law_asks" rfl rfl) C_l_all_within
 have C_l_walk : Cal P w K mg "_law_walk" ["_law_plains_here", "_law_sailings_here", "_law_lifts", "_law_last"] 3 (sp_l_walk K) := ok_l_walk B CN (dfn_of X G c 31 31 59 "_law_walk" rfl rfl) C_l_int C_l_asks
 have C_l_schedule_holds : Cal P w K mg "_law_schedule_holds" ["_law_schedule_here", "_law_plains_here", "_law_sailings_here", "_law_last", "_law_rows"] 3 (sp_l_schedule_holds K) := ok_l_schedule_holds B CN (dfn_of X G c 32 32 60 "_law_schedule_holds" rfl rfl) C_l_keeps C_l_always C_l_asks
 have C_l_answer_holds : Cal P w K mg "_law_answer_holds" ["_law_told_here", "_law_plains_here", "_law_sailings_here", "_law_last", "_law_rows"] 4 (sp_l_answer_holds K) := ok_l_answer_holds B CN (dfn_of X G c 33 33 61 "_law_answer_holds" rfl rfl) C_l_int C_l_walk C_l_schedule_holds
 have C_l_not_below : Cal P w K mg "_law_not_below" ["_law_least", "_law_plains_here", "_law_sailings_here", "_law_rival", "_law_last"] 3 (sp_l_not_below K) := ok_l_not_below B CN (dfn_of X G c 34 34 62 "_law_not_below" rfl rfl) C_l_always
 have C_l_lowered : Cal P w K mg "_law_lowered" ["_law_hand_here", "_law_schedule_here"] 2 (sp_l_lowered K) := ok_l_lowered B CN (dfn_of X G c 35 35 63 "_law_lowered" rfl rfl) C_l_pick
 have C_l_told : Cal P w K mg "_law_told" ["_law_sailings_here", "_law_orders", "_law_kind", "_law_last"] 6 (sp_l_told K (He.ga K "Gate")) := ok_l_told B CN (dfn_of X G c 36 36 64 "_law_told" rfl rfl) T_Gate C_least_schedule C_l_words
 have C_l_rivals_hold : Cal P w K mg "_law_rivals_hold" ["_law_hand_here", "_law_least", "_law_plains_here", "_law_sailings_here", "_law_last", "_law_rivals"] 4 (sp_l_rivals_hold K) := ok_l_rivals_hold B CN (dfn_of X G c 37 37 65 "_law_rivals_hold" rfl rfl) C_l_not_below C_l_lowered
 have C_l_refused : Cal P w K mg "_law_refused" ["_law_sailings_here", "_law_orders", "_law_index"] 6 (sp_l_refused K (He.ga K "Gate")) := ok_l_refused B CN (dfn_of X G c 38 38 66 "_law_refused" rfl rfl) T_Gate C_least_schedule_x C_l_int H_l_int
 have C_l_refused_by_base : Cal P w K mg "_law_refused_by_base" ["_law_sailings_here", "_law_orders"] 6 (sp_l_refused_by_base K (He.ga K "Gate")) := ok_l_refused_by_base B CN (dfn_of X G c 39 39 67 "_law_refused_by_base" rfl rfl) T_Gate C_least_schedule_x
 have C_l_nothing_holds : Cal P w K mg "_law_nothing_holds" [] 7 (sp_l_nothing_holds K) := ok_l_nothing_holds B CN (dfn_of X G c 40 40 68 "_law_nothing_holds" rfl rfl) T_Gate C_least_schedule C_l_refused
 have C_law : Cal P w K mg "law" ["_law_script"] 8 (sp_law K) := ok_law B CN (dfn_of X G c 41 41 69 "law" rfl rfl) T_Gate C_l_hand C_l_pick C_l_sailings C_l_schedule C_l_legs C_l_plains C_l_order C_l_gates_stay C_l_places C_l_spoil C_l_answer_holds C_l_told C_l_rivals_hold C_l_refused C_l_refused_by_base C_l_nothing_holds
 exact fn_law hfa C_law
end G
open PySem PySem.W PySem.Calls PyProof.Rows
theorem PySem.Challenge.cw_fogfleet_k63_whole_least_schedule_holds : PySem.Challenge.rw_fogfleet_k63_whole_least_schedule.Holds := by
  w_on; o_law
  refine HandSHeadRun.head_any (r := OpenLaw.row PySem.Challenge.rw_fogfleet_k63_whole_least_schedule) (q := view (OpenLaw.row PySem.Challenge.rw_fogfleet_k63_whole_least_schedule).prog [69]) (H := G.hk) (ob := G.ob) (M := 40000) (loose := G.looseL) (d := HandSHeadRun.topDef (OpenLaw.row PySem.Challenge.rw_fogfleet_k63_whole_least_schedule).prog 69) (kwd := []) G.ob_eq
    (by kernel_rfl) (fun s => by kernel_rfl) G.run (by kernel_rfl) (by kernel_rfl) (by kernel_rfl) (by rfl) (by first | assumption | decide +kernel) (by decide +kernel) ⟨rfl, rfl, rfl, rfl, rfl, by decide +kernel⟩ ?hw ?hc
  case hw => w_witness2
  case hc =>
    refine L2.walk_ofE (l := PySem.Challenge.rw_fogfleet_k63_whole_least_schedule) (n := 63) (k := 8) (x := "_law_script") (CX := L2.CX0) rfl (by decide) (by kernel_rfl) ⟨rfl, by decide, by decide⟩ ?F (fun _ _ _ _ z => z)
    intro w mg fa h Y G0 hmg0
    obtain ⟨K, KX, c⟩ := Y
    have hmg : mg ("law" : PySem.Str) = some (.ref fa) := by
      have e : (HandSHeadRun.topDef (OpenLaw.row PySem.Challenge.rw_fogfleet_k63_whole_least_schedule).prog 69).name = ("law" : PySem.Str) := by kernel_rfl
      rw [← e]
      exact hmg0
    obtain ⟨fd, hb, hF⟩ := G.facts (P := (PySem.Challenge.rw_fogfleet_k63_whole_least_schedule).prog) (w := w) KX G0 c (by kernel_rfl) (by kernel_rfl) hmg
    exact ⟨K, fd, G.sp_law K, KX, hb, fun H a ns hl hO hS => ⟨_, ns, true, rfl, G.yScr_of hO hS, Mi.law_true ns hl, fun _ _ => rfl⟩, hF⟩

