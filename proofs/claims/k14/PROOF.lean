import PyProof.Rows.All
import Wide.All
import OpenK.AllK
import Wide.FinOn
import HandS.ForMost
import HandS.ForExc
import HandS.Wide
import HandS.IsInst
import HandS.Flow
import HandS.Defaults
import HandS.SortInts
import HandS.Strs
import HandS.TupSets
import HandS.MakeKw
import HandS.MakeKwOnly
import HandS.Conv
import HandS.Steps
import KE.GoesMore
import HandS.Text
import HandS.Iter
import HandS.SortRule
import HandS.TupLe
import HandS.HeadHook1
import HandS.HeadHook2
import HandS.Deep
import KE.KRevSl
import HandS.Rev
import HandS.RevTup
import HandS.IterVal
import HandS.OwnIter
import KE.KSuper
import KE.KExcSuper
import KE.KExcIs
import HandS.ExcField
import HandS.ExcOwn
import HandS.WordsExc
import HandS.Head0
import HandS.FStr
import HandS.Star
import PyProof.Rows.MatchSeqLen
import HandS.More
import HandS.Zip
import KE.GoesEnumKw
import HandS.HeadHook3
import KE.GoesEnum
import HandS.DeepEq
import KE.GoesZip
import HandS.GenCall
import HandS.GenList
import KE.KStateDown
import PyProof.ByEval2
import Lean
import HandS.Head1
import HandS.Head2
import HandS.HeadEnd
import PySem.Challenge.RW_fogfleet_k14_sight_zone
set_option Elab.async false
set_option linter.all false
set_option maxRecDepth 100000
set_option maxHeartbeats 4000000
/-! the plain meaning of the program's steps: none is what this text says nothing about -/
namespace Mi
def pyLet {α β : Type} (e : α) (f : α → β) : β := f e
def ixN (n : Nat) (i : Int) : Option Nat := if 0 ≤ i then (if i < n then some i.toNat else none) else if -(n : Int) ≤ i then some (i + n).toNat else none
def at_ {α : Type} (xs : List α) (i : Int) : Option α := (ixN xs.length i).bind fun j => xs[j]?
def setAt {α : Type} (xs : List α) (i : Int) (x : α) : Option (List α) := (ixN xs.length i).bind fun j => some (xs.set j x)
def sIx (n d : Nat) : Option Int → Nat
  | none => d
  | some v => if v < 0 then (v + (n : Int)).toNat else min v.toNat n
def cut {α : Type} (xs : List α) (lo hi : Option Int) : List α := (xs.drop (sIx xs.length 0 lo)).take (sIx xs.length xs.length hi - sIx xs.length 0 lo)
def big : Nat := 1000000
def app {α : Type} (xs : List α) (x : α) : Option (List α) := if xs.length < big then some (xs ++ [x]) else none
def cat {α : Type} (xs ys : List α) : Option (List α) := if xs.length + ys.length ≤ big then some (xs ++ ys) else none
def mul (i j : Int) : Option Int := if (-(2 ^ 64) < i ∧ i < 2 ^ 64) ∨ (-(2 ^ 64) < j ∧ j < 2 ^ 64) then some (i * j) else none
def mod (i j : Int) : Option Int := if 0 < j then some (i % j) else none
def fdiv (i j : Int) : Option Int := if 0 < j ∧ j < 2 ^ 200 then some (i / j) else none
def guardO (c : Bool) : Option Unit := if c = true then some () else none
def smallI (i : Int) : Bool := decide (-(2 ^ 60) ≤ i) && decide (i < 2 ^ 60)
/-- range(lo, hi) -/
def rng (lo hi : Int) : List Int := (List.range (hi - lo).toNat).map fun (k : Nat) => lo + (k : Int)
/-- range(lo, hi, -1) -/
def rngDown (lo hi : Int) : List Int := (List.range (lo - hi).toNat).map fun (k : Nat) => lo - (k : Int)
/-- a for that runs through -/
def forN {α σ : Type} (f : σ → α → Option σ) : σ → List α → Option σ
  | s, [] => some s
  | s, x :: xs => (f s x).bind fun s' => forN f s' xs
/-- a for that may return (inl) -/
def forR {α σ ρ : Type} (f : σ → α → Option (ρ ⊕ σ)) : σ → List α → Option (ρ ⊕ σ)
  | s, [] => some (.inr s)
  | s, x :: xs => (f s x).bind fun
    | .inl r => some (.inl r)
    | .inr s' => forR f s' xs
/-- a for that may break (inl) -/
def forB {α σ : Type} (f : σ → α → Option (σ ⊕ σ)) : σ → List α → Option σ
  | s, [] => some s
  | s, x :: xs => (f s x).bind fun
    | .inl s' => some s'
    | .inr s' => forB f s' xs
/-- a comprehension: none of the inner option is an item left out; the state is what the items' making changes -/
def comp {α β σ : Type} (f : σ → α → Option (Option β × σ)) : σ → List α → Option (List β × σ)
  | s, [] => some ([], s)
  | s, x :: xs => (f s x).bind fun p => (comp f p.2 xs).bind fun q => some ((match p.1 with | some y => y :: q.1 | none => q.1), q.2)
/-- a comprehension that changes nothing -/
def comp0 {α β : Type} (f : α → Option (Option β)) : List α → Option (List β)
  | [] => some []
  | x :: xs => (f x).bind fun p => (comp0 f xs).bind fun q => some (match p with | some y => y :: q | none => q)
def whileN {σ : Type} (c : σ → Option Bool) (b : σ → Option σ) : Nat → σ → Option σ
  | 0, _ => none
  | n + 1, s => (c s).bind fun t => if t = true then (b s).bind fun s' => whileN c b n s' else some s
def whileR {σ ρ : Type} (c : σ → Option Bool) (b : σ → Option (ρ ⊕ σ)) : Nat → σ → Option (ρ ⊕ σ)
  | 0, _ => none
  | n + 1, s => (c s).bind fun t => if t = true then (b s).bind fun
      | .inl r => some (.inl r)
      | .inr s' => whileR c b n s'
    else some (.inr s)
theorem bnd {α β : Type} {m : Option α} {f : α → Option β} {r : β} (h : m.bind f = some r) : ∃ x, m = some x ∧ f x = some r := by
  cases m with
  | none => cases h
  | some x => exact ⟨x, rfl, h⟩
theorem letE {α β : Type} {e : α} {f : α → Option β} {r : Option β} (h : pyLet e f = r) : ∃ x, e = x ∧ f x = r := ⟨e, rfl, h⟩
theorem ifT {α : Type} {b : Bool} {x y : Option α} {r : Option α} (hb : b = true) (h : (if b = true then x else y) = r) : x = r := by
  rw [if_pos hb] at h; exact h
theorem ifF {α : Type} {b : Bool} {x y : Option α} {r : Option α} (hb : b = false) (h : (if b = true then x else y) = r) : y = r := by
  rw [hb, if_neg Bool.false_ne_true] at h; exact h
end Mi
namespace Mi
def rngO (lo hi : Int) : Option (List Int) := if (-(2 ^ 60) ≤ lo ∧ lo < 2 ^ 60) ∧ (-(2 ^ 60) ≤ hi ∧ hi < 2 ^ 60) then some (rng lo hi) else none
def rngDownO (lo hi : Int) : Option (List Int) := if (-(2 ^ 60) ≤ lo ∧ lo < 2 ^ 60) ∧ (-(2 ^ 60) ≤ hi ∧ hi < 2 ^ 60) then some (rngDown lo hi) else none
theorem forN_go {α σ : Type} {f : σ → α → Option σ} {s e : σ} {xs : List α} {i : Nat} {x : α} (h : forN f s (xs.drop i) = some e) (hx : xs[i]? = some x) : ∃ s', f s x = some s' ∧ forN f s' (xs.drop (i + 1)) = some e := by
  have hi : i < xs.length := (List.getElem?_eq_some_iff.mp hx).1
  have e1 : xs.drop i = x :: xs.drop (i + 1) := by
    rw [List.drop_eq_getElem_cons hi]
    congr 1
    exact (List.getElem?_eq_some_iff.mp hx).2
  rw [e1] at h
  exact bnd h
theorem forN_end {α σ : Type} {f : σ → α → Option σ} {s e : σ} {xs : List α} (h : forN f s (xs.drop xs.length) = some e) : s = e := by
  rw [List.drop_length] at h
  exact Option.some.inj h
theorem forR_go {α σ ρ : Type} {f : σ → α → Option (ρ ⊕ σ)} {s : σ} {e : ρ ⊕ σ} {xs : List α} {i : Nat} {x : α} (h : forR f s (xs.drop i) = some e) (hx : xs[i]? = some x) :
    ∃ o, f s x = some o ∧ ((∃ r, o = .inl r ∧ e = .inl r) ∨ ∃ s', o = .inr s' ∧ forR f s' (xs.drop (i + 1)) = some e) := by
  have hi : i < xs.length := (List.getElem?_eq_some_iff.mp hx).1
  have e1 : xs.drop i = x :: xs.drop (i + 1) := by
    rw [List.drop_eq_getElem_cons hi]
    congr 1
    exact (List.getElem?_eq_some_iff.mp hx).2
  rw [e1] at h
  obtain ⟨o, h1, h2⟩ := bnd h
  refine ⟨o, h1, ?_⟩
  cases o with
  | inl r => exact .inl ⟨r, rfl, (Option.some.inj h2).symm⟩
  | inr s' => exact .inr ⟨s', rfl, h2⟩
theorem forR_end {α σ ρ : Type} {f : σ → α → Option (ρ ⊕ σ)} {s : σ} {e : ρ ⊕ σ} {xs : List α} (h : forR f s (xs.drop xs.length) = some e) : e = .inr s := by
  rw [List.drop_length] at h
  exact (Option.some.inj h).symm
theorem forB_go {α σ : Type} {f : σ → α → Option (σ ⊕ σ)} {s e : σ} {xs : List α} {i : Nat} {x : α} (h : forB f s (xs.drop i) = some e) (hx : xs[i]? = some x) :
    ∃ o, f s x = some o ∧ ((o = .inl e) ∨ ∃ s', o = .inr s' ∧ forB f s' (xs.drop (i + 1)) = some e) := by
  have hi : i < xs.length := (List.getElem?_eq_some_iff.mp hx).1
  have e1 : xs.drop i = x :: xs.drop (i + 1) := by
    rw [List.drop_eq_getElem_cons hi]
    congr 1
    exact (List.getElem?_eq_some_iff.mp hx).2
  rw [e1] at h
  obtain ⟨o, h1, h2⟩ := bnd h
  refine ⟨o, h1, ?_⟩
  cases o with
  | inl r => exact .inl (by rw [Option.some.inj h2])
  | inr s' => exact .inr ⟨s', rfl, h2⟩
theorem forB_end {α σ : Type} {f : σ → α → Option (σ ⊕ σ)} {s e : σ} {xs : List α} (h : forB f s (xs.drop xs.length) = some e) : s = e := by
  rw [List.drop_length] at h
  exact Option.some.inj h
end Mi
namespace Mi
def orR {ρ σ : Type} (o : ρ ⊕ σ) (k : σ → Option ρ) : Option ρ := match o with
  | .inl r => some r
  | .inr s => k s
def orL {ρ σ τ : Type} (o : ρ ⊕ σ) (k : σ → Option (ρ ⊕ τ)) : Option (ρ ⊕ τ) := match o with
  | .inl r => some (.inl r)
  | .inr s => k s
theorem orR_inl {ρ σ : Type} {r q : ρ} {k : σ → Option ρ} (h : orR (.inl r) k = some q) : some r = some q := h
theorem orR_inr {ρ σ : Type} {s : σ} {q : ρ} {k : σ → Option ρ} (h : orR (.inr s) k = some q) : k s = some q := h
theorem orL_inl {ρ σ τ : Type} {r : ρ} {q : ρ ⊕ τ} {k : σ → Option (ρ ⊕ τ)} (h : orL (.inl r) k = some q) : some (.inl r) = some q := h
theorem orL_inr {ρ σ τ : Type} {s : σ} {q : ρ ⊕ τ} {k : σ → Option (ρ ⊕ τ)} (h : orL (.inr s) k = some q) : k s = some q := h
theorem or_inl {ρ σ : Type} {r : ρ} {e : ρ ⊕ σ} {P : σ → Prop} (h : (∃ r', (Sum.inl r : ρ ⊕ σ) = .inl r' ∧ e = .inl r') ∨ ∃ s', (Sum.inl r : ρ ⊕ σ) = .inr s' ∧ P s') : e = .inl r := by
  rcases h with ⟨r', h1, h2⟩ | ⟨s', h1, _⟩
  · cases h1; exact h2
  · cases h1
theorem or_inr {ρ σ : Type} {s : σ} {e : ρ ⊕ σ} {P : σ → Prop} (h : (∃ r', (Sum.inr s : ρ ⊕ σ) = .inl r' ∧ e = .inl r') ∨ ∃ s', (Sum.inr s : ρ ⊕ σ) = .inr s' ∧ P s') : P s := by
  rcases h with ⟨r', h1, h2⟩ | ⟨s', h1, h2⟩
  · cases h1
  · cases h1; exact h2
end Mi
namespace Mi
def shl (i j : Int) : Option Int := if 0 ≤ j ∧ j ≤ 1000 ∧ -(2 ^ 64) < i ∧ i < 2 ^ 64 then some (i * 2 ^ j.toNat) else none
def shr (i j : Int) : Option Int := if 0 ≤ j then some (i / 2 ^ j.toNat) else none
def sortI (xs : List Int) : List Int := xs.mergeSort fun a b => decide (a ≤ b)
def sadd (xs : List Int) (k : Int) : Option (List Int) := if xs.length < 4000 then some (if xs.contains k = true then xs else xs ++ [k]) else none
def popL {α : Type} (xs : List α) : Option (α × List α) := (xs[xs.length - 1]?).bind fun y => some (y, xs.dropLast)
def popAt {α : Type} (xs : List α) (i : Int) : Option (α × List α) := (ixN xs.length i).bind fun j => (xs[j]?).bind fun y => some (y, xs.eraseIdx j)
def lMin (xs : List Int) : Option Int := xs.head?.map fun x => xs.foldl min x
def lMax (xs : List Int) : Option Int := xs.head?.map fun x => xs.foldl max x
/-- enumerate -/
def enumF {α : Type} : Int → List α → List (Int × α)
  | _, [] => []
  | k, x :: xs => (k, x) :: enumF (k + 1) xs
end Mi
namespace Mi
/-! ### texts: lists of code points -/
def sLen (s : List Nat) : Option Int := if s.length ≤ big then some (s.length : Int) else none
def sAt (s : List Nat) (i : Int) : Option (List Nat) := if s.length ≤ big then (at_ s i).map fun c => [c] else none
def sCut (s : List Nat) (lo hi : Option Int) : Option (List Nat) := if s.length ≤ big then some (cut s lo hi) else none
def sCat (a b : List Nat) : Option (List Nat) := if a.length + b.length ≤ big then some (a ++ b) else none
def sIn (a s : List Nat) : Option Bool := match a with
  | [c] => some (s.contains c)
  | _ => none
def joinL (sep : List Nat) : List (List Nat) → List Nat
  | [] => []
  | [p] => p
  | p :: q :: r => p ++ (sep ++ joinL sep (q :: r))
def sJoin (sep : List Nat) (xs : List (List Nat)) : Option (List Nat) := if (xs.map (·.length)).sum + xs.length * sep.length ≤ big then some (joinL sep xs) else none
def signs (s : List Nat) : List (List Nat) := s.map fun c => [c]
def okS (s : List Nat) : Bool := s.all fun c => decide (c < 1114112)
def bI (b : Bool) : Int := if b = true then 1 else 0
end Mi
namespace Mi
/-- xs[i].append(x) -/
def appIn {α : Type} (xs : List (List α)) (i : Int) (x : α) : Option (List (List α)) := (ixN xs.length i).bind fun j => (xs[j]?).bind fun row => (app row x).bind fun ys => some (xs.set j ys)
def leP (a b : Int × Int) : Bool := decide (a.1 < b.1 ∨ (a.1 = b.1 ∧ a.2 ≤ b.2))
def sortP (xs : List (Int × Int)) : List (Int × Int) := xs.mergeSort leP
def saddP (xs : List (Int × Int)) (k : Int × Int) : Option (List (Int × Int)) := if xs.length < 70 then some (if xs.contains k = true then xs else xs ++ [k]) else none
def repL {α : Type} (xs : List α) (k : Int) : Option (List α) := if -(2 ^ 60) ≤ k ∧ k < 2 ^ 60 ∧ xs.length * k.toNat ≤ big then some (List.replicate k.toNat xs).flatten else none
def lIdx {α : Type} [BEq α] (xs : List α) (x : α) : Option Int := if xs.contains x = true then some ((xs.idxOf x : Nat) : Int) else none
def rngL (lo hi : Int) : Option (List Int) := if (-(2 ^ 60) ≤ lo ∧ lo < 2 ^ 60) ∧ (-(2 ^ 60) ≤ hi ∧ hi < 2 ^ 60) ∧ (hi - lo).toNat ≤ 1000000 then some (rng lo hi) else none
end Mi
namespace Mi
def evens {α : Type} : List α → List α
  | [] => []
  | [x] => [x]
  | x :: _ :: r => x :: evens r
def ext {α : Type} (xs ys : List α) : Option (List α) := if xs.length + ys.length ≤ big then some (xs ++ ys) else none
end Mi
namespace Mi
def sRep (s : List Nat) (k : Int) : Option (List Nat) := if -(2 ^ 60) ≤ k ∧ k < 2 ^ 60 ∧ s.length * k.toNat ≤ big then some (List.replicate k.toNat s).flatten else none
theorem whileN_go {σ : Type} {c : σ → Option Bool} {b : σ → Option σ} {m : Nat} {s e : σ} (h : whileN c b m s = some e) : ∃ n t, m = n + 1 ∧ c s = some t ∧ (if t = true then (b s).bind fun s' => whileN c b n s' else some s) = some e := by
  cases m with
  | zero => cases h
  | succ n =>
    obtain ⟨t, h1, h2⟩ := bnd (show (c s).bind (fun t => if t = true then (b s).bind fun s' => whileN c b n s' else some s) = some e from h)
    exact ⟨n, t, rfl, h1, h2⟩
end Mi
namespace Mi
/-- a call that may raise (inl: the error's part) -/
def tryX {α β : Type} (q : List Nat ⊕ α) (f : List Nat → Option β) (g : α → Option β) : Option β := match q with
  | .inl y => f y
  | .inr a => g a
theorem tryL {α β : Type} {y : List Nat} {f : List Nat → Option β} {g : α → Option β} {r : Option β} (h : tryX (.inl y) f g = r) : f y = r := h
theorem tryR {α β : Type} {a : α} {f : List Nat → Option β} {g : α → Option β} {r : Option β} (h : tryX (.inr a) f g = r) : g a = r := h
end Mi
namespace Mi
/-- an int or a text -/
def asI : Int ⊕ List Nat → Option Int
  | .inl i => some i
  | .inr _ => none
def asS : Int ⊕ List Nat → Option (List Nat)
  | .inr s => some s
  | .inl _ => none
end Mi
namespace Mi
/-- one kind of two -/
def asL {α β : Type} : α ⊕ β → Option α
  | .inl a => some a
  | .inr _ => none
def asR {α β : Type} : α ⊕ β → Option β
  | .inr b => some b
  | .inl _ => none
end Mi
namespace Mi
/-- str of an int -/
def sInt (i : Int) : List Nat := (toString i).toList.map Char.toNat
def sOfI (i : Int) : Option (List Nat) := if i.natAbs < 10 ^ 15 then some (sInt i) else none
/-- what a format field makes of an int or a text -/
def fmtS (s : List Nat) : Option (List Nat) := if s.length ≤ big then some s else none
def un4 {α : Type} : List α → Option (α × α × α × α)
  | [a, b, c, d] => some (a, b, c, d)
  | _ => none
def isL {α β : Type} : α ⊕ β → Bool
  | .inl _ => true
  | .inr _ => false
end Mi
namespace Mi
def fmtU {γ : Type} : Int ⊕ List Nat ⊕ γ → Option (List Nat)
  | .inl i => sOfI i
  | .inr (.inl s) => fmtS s
  | .inr (.inr _) => none
end Mi
namespace Mi
abbrev U5 : Type := Int ⊕ List Nat ⊕ Bool ⊕ List Int ⊕ List Bool
def isi5 (b1 b2 b3 b4 : Bool) : U5 → Bool
  | .inl _ => b1
  | .inr (.inl _) => b2
  | .inr (.inr (.inl _)) => b3
  | .inr (.inr (.inr _)) => b4
def isi2 (b1 b2 : Bool) : Int ⊕ Bool → Bool
  | .inl _ => b1
  | .inr _ => b2
def eq5 : U5 → U5 → Option Bool
  | .inl i, .inl j => some (decide (i = j))
  | .inr (.inl a), .inr (.inl b) => some (decide (a = b))
  | .inr (.inr (.inl a)), .inr (.inr (.inl b)) => some (decide (a = b))
  | _, _ => none
def eq2 : Int ⊕ Bool → Int ⊕ Bool → Option Bool
  | .inl i, .inl j => some (decide (i = j))
  | .inr a, .inr b => some (decide (a = b))
  | _, _ => none
def len5 : U5 → Option Int
  | .inr (.inr (.inr (.inl xs))) => some (xs.length : Int)
  | .inr (.inr (.inr (.inr xs))) => some (xs.length : Int)
  | _ => none
def it5 (d : U5) (i : Int) : Option (Int ⊕ Bool) := match d with
  | .inr (.inr (.inr (.inl xs))) => (at_ xs i).map .inl
  | .inr (.inr (.inr (.inr xs))) => (at_ xs i).map .inr
  | _ => none
def fmt5 : U5 → Option (List Nat)
  | .inl i => sOfI i
  | .inr (.inl s) => fmtS s
  | _ => none
/-- case ['l', _, .., _] with n names -/
def mseq (l : List Nat) (n : Nat) (d : List U5) : Option (Option (List U5)) := if d.length = n + 1 then (match d with
  | .inr (.inl w) :: ys => if w = l then some (some ys) else some none
  | _ => none) else some none
def optX {α β : Type} (z : Option α) (f : α → Option β) (g : Option β) : Option β := match z with
  | some a => f a
  | none => g
theorem optS {α β : Type} {a : α} {f : α → Option β} {g r : Option β} (h : optX (some a) f g = r) : f a = r := h
theorem optN {α β : Type} {f : α → Option β} {g r : Option β} (h : optX none f g = r) : g = r := h
def unc {α : Type} : List α → Option (α × List α)
  | x :: xs => some (x, xs)
  | [] => none
end Mi
namespace Mi
def dHas (d : List (List Nat × Int)) (x : List Nat) : Bool := d.any fun p => p.1 == x
def dGet (d : List (List Nat × Int)) (x : List Nat) : Option Int := (d.find? fun p => p.1 == x).map (·.2)
def sDig : List Nat → Option Int
  | [c] => if 48 ≤ c ∧ c ≤ 57 then some ((c : Int) - 48) else none
  | _ => none
end Mi
namespace Mi
def itH (h : Int × List Nat × Int × Int) (i : Int) : Option Int := if i = ((0 : Nat) : Int) then some h.1 else if i = ((2 : Nat) : Int) then some h.2.2.1 else if i = ((3 : Nat) : Int) then some h.2.2.2 else none
end Mi
namespace Mi
/-- a list or a tuple: its items -/
def unq {α : Type} : List α ⊕ List α → List α
  | .inl a => a
  | .inr a => a
end Mi
namespace Mi
/-- a yield: the next of the things that are to be handed out -/
def yld {β : Type} [DecidableEq β] (tot : List β) (y : Int) (d : β) : Option Int := if 0 ≤ y ∧ tot[y.toNat]? = some d then some (y + 1) else none
theorem yld_some {β : Type} [DecidableEq β] {tot : List β} {y r : Int} {d : β} (h : yld tot y d = some r) : ∃ k : Nat, y = (k : Int) ∧ tot[k]? = some d ∧ r = ((k + 1 : Nat) : Int) := by
  unfold yld at h
  split at h
  · rename_i c
    refine ⟨y.toNat, by omega, c.2, ?_⟩
    have := Option.some.inj h
    omega
  · cases h
end Mi

namespace Mi
def m_every_place (d0 : (Int × (List Int) × (List (Int × Int)) × (List Int) × (List Int) × (List (List Int)))) : Option (List Bool) :=
  (repL [true] d0.1).bind fun x12 =>
  some x12
def m_is_pattern_b1  (s7 : (List (List Nat))) (x16 : (List Nat)) : Option (List (List Nat)) :=
  (sIn x16 ([42, 46] : List Nat)).bind fun b25 =>
  if (!b25) = true then ((app s7 x16).bind fun x26 =>
  some x26) else (some s7)
def m_is_pattern (d0 : (List Nat)) : Option Bool :=
  (sLen d0).bind fun x2 =>
  (if (decide (x2 < (1 : Int))) = true then some true else (sLen d0).bind fun x4 => some (decide ((12 : Int) < x4))).bind fun b5 =>
  if b5 = true then
  (some false)
  else
  (forN (m_is_pattern_b1) ([] : (List (List Nat))) (Mi.signs d0)).bind fun s7 =>
  some (decide ((s7.length : Int) = (0 : Int)))
def m_Light_init (d1 : Int) (d2 : (List Nat)) (d3 : Int) : Option (Int × (List Nat) × Int) :=
  if ((decide (d1 < (0 : Int))) || (decide ((11 : Int) < d1))) = true then
  (none)
  else
  (m_is_pattern d2).bind fun q6 =>
  if (!q6) = true then
  (none)
  else
  if ((decide (d3 < (0 : Int))) || (decide ((3 : Int) < d3))) = true then
  (none)
  else
  some (d1, d2, d3)
def m_is_zone_0_b1 (d1 : Int) (s11 : (List Int)) (x14 : Int) : Option (Bool ⊕ (List Int)) :=
  if ((decide (x14 < (0 : Int))) || ((decide (d1 ≤ x14)) || (s11.contains x14))) = true then
  (some (.inl false))
  else
  (sadd s11 x14).bind fun x21 =>
  some (.inr x21)
def m_is_zone_0 (d0 : (List Int)) (d1 : Int) : Option Bool :=
  (forR (m_is_zone_0_b1 d1) ([] : List Int) d0).bind fun e10 => orR e10 fun s11 =>
  some true
def m_is_zone_1_b1 (d1 : Int) (s10 : (List Int)) (x13 : Int) : Option (Bool ⊕ (List Int)) :=
  if ((decide (x13 < (0 : Int))) || ((decide (d1 ≤ x13)) || (s10.contains x13))) = true then
  (some (.inl false))
  else
  (sadd s10 x13).bind fun x20 =>
  some (.inr x20)
def m_is_zone_1 (d0 : (List Int)) (d1 : Int) : Option Bool :=
  (forR (m_is_zone_1_b1 d1) ([] : List Int) d0).bind fun e9 => orR e9 fun s10 =>
  some true
def m_good_numbers_b1 (d2 : Int) (s6 : Unit) (x9 : Int) : Option (Bool ⊕ Unit) :=
  if ((decide (x9 < (0 : Int))) || (decide (d2 < x9))) = true then
  (some (.inl false))
  else
  some (.inr ())
def m_good_numbers (d0 : (List Int)) (d1 : Int) (d2 : Int) : Option Bool :=
  if ((decide ((d0.length : Int) < (1 : Int))) || (decide (d1 < (d0.length : Int)))) = true then
  (some false)
  else
  (forR (m_good_numbers_b1 d2) () d0).bind fun e5 => orR e5 fun s6 =>
  some true
def m_good_depths (d0 : (List Int)) : Option Bool :=
  (m_good_numbers d0 (12 : Int) (99 : Int)).bind fun q2 =>
  some q2
def m_good_lanes_b1 (d1 : Int) (s11 : (List (Int × Int))) (x17 : (Int × Int)) : Option (Bool ⊕ (List (Int × Int))) :=
  pyLet ((min x17.1 x17.2) : Int) fun low26 =>
  pyLet ((max x17.1 x17.2) : Int) fun high27 =>
  ( if (decide (low26 < (0 : Int))) = true then some true else  if (decide (d1 ≤ high27)) = true then some true else  if (decide (low26 = high27)) = true then some true else some (s11.contains (low26, high27)) : Option Bool).bind fun b28 =>
  if b28 = true then
  (some (.inl false))
  else
  (saddP s11 (low26, high27)).bind fun x39 =>
  some (.inr x39)
def m_good_lanes (d0 : (List (Int × Int))) (d1 : Int) : Option Bool :=
  (forR (m_good_lanes_b1 d1) ([] : List (Int × Int)) d0).bind fun e10 => orR e10 fun s11 =>
  some true
def m_good_tide (d0 : (List Int)) : Option Bool :=
  (m_good_numbers d0 (12 : Int) (20 : Int)).bind fun q2 =>
  some q2
def m_good_harbours (d0 : (List Int)) (d1 : Int) : Option Bool :=
  (m_is_zone_0 d0 d1).bind fun q3 =>
  some q3
def m_ordered_lanes_b1  (s3 : (List (Int × Int))) (x13 : (Int × Int)) : Option (List (Int × Int)) :=
  (app s3 ((min x13.1 x13.2), (max x13.1 x13.2))).bind fun x31 =>
  some x31
def m_ordered_lanes (d0 : (List (Int × Int))) : Option (List (Int × Int)) :=
  (forN (m_ordered_lanes_b1) ([] : (List (Int × Int))) d0).bind fun s3 =>
  some (Mi.sortP s3)
def m_joined_places_b1  (s5 : (List (List Int))) (x15 : Int) : Option (List (List Int)) :=
  (app s5 ([] : (List Int))).bind fun x31 =>
  some x31
def m_joined_places_b2  (s41 : (List (List Int))) (x45 : (Int × Int)) : Option (List (List Int)) :=
  (at_ s41 x45.1).bind fun x53 =>
  (appIn s41 x45.1 x45.2).bind fun x54 =>
  (at_ x54 x45.2).bind fun x62 =>
  (appIn x54 x45.2 x45.1).bind fun x63 =>
  some x63
def m_joined_places_b3  (s72 : (List (List Int))) (x82 : (List Int)) : Option (List (List Int)) :=
  (app s72 x82).bind fun x97 =>
  some x97
def m_joined_places (d0 : Int) (d1 : (List (Int × Int))) : Option (List (List Int)) :=
  (rngO 0 d0).bind fun g3 =>
  (forN (m_joined_places_b1) ([] : (List (List Int))) g3).bind fun s5 =>
  (forN (m_joined_places_b2) s5 d1).bind fun s41 =>
  (forN (m_joined_places_b3) ([] : (List (List Int))) s41).bind fun s72 =>
  some s72
def m_Chart_init (d1 : (List Int)) (d2 : (List (Int × Int))) (d3 : (List Int)) (d4 : (List Int)) : Option (Int × (List Int) × (List (Int × Int)) × (List Int) × (List Int) × (List (List Int))) :=
  (m_good_depths d1).bind fun q6 =>
  if (!q6) = true then
  (none)
  else
  (m_good_lanes d2 (d1.length : Int)).bind fun q9 =>
  if (!q9) = true then
  (none)
  else
  (m_good_tide d3).bind fun q12 =>
  if (!q12) = true then
  (none)
  else
  (m_good_harbours d4 (d1.length : Int)).bind fun q15 =>
  if (!q15) = true then
  (none)
  else
  (m_ordered_lanes d2).bind fun q26 =>
  (m_joined_places (d1.length : Int) q26).bind fun q56 =>
  some ((d1.length : Int), d1, q26, d3, (Mi.sortI d4), q56)
def m_Chart_neighbours (d0 : (Int × (List Int) × (List (Int × Int)) × (List Int) × (List Int) × (List (List Int)))) (d1 : Int) : Option (List Int) :=
  (at_ d0.2.2.2.2.2 d1).bind fun x7 =>
  some x7
def m_allowed_neighbours_l_b1 (d2 : (List Bool)) (s22 : (List Int)) (x25 : Int) : Option (List Int) :=
  ((at_ d2 x25).bind fun x30 =>
  if x30 = true then ((app s22 x25).bind fun x34 =>
  some x34) else (some s22) : Option (List Int)).bind fun s29 =>
  some s29
def m_allowed_neighbours_l (d0 : (Int × (List Int) × (List (Int × Int)) × (List Int) × (List Int) × (List (List Int)))) (d1 : Int) (d2 : (List Bool)) : Option (List Int) :=
  (m_Chart_neighbours d0 d1).bind fun q11 =>
  (forN (m_allowed_neighbours_l_b1 d2) ([] : (List Int)) q11).bind fun s22 =>
  some s22
def m_allowed_neighbours_b1 (d2 : (List Bool)) (tot : (List Int)) (s14 : Int) (x17 : Int) : Option Int :=
  ((at_ d2 x17).bind fun x22 =>
  if x22 = true then ((yld tot s14 x17).bind fun y26 =>
  some y26) else (some s14) : Option Int).bind fun s21 =>
  some s21
def m_allowed_neighbours (d0 : (Int × (List Int) × (List (Int × Int)) × (List Int) × (List Int) × (List (List Int)))) (d1 : Int) (d2 : (List Bool)) (tot : (List Int)) : Option Unit :=
  (m_Chart_neighbours d0 d1).bind fun q4 =>
  (forN (m_allowed_neighbours_b1 d2 tot) (0 : Int) q4).bind fun s14 =>
  (guardO (decide (s14 = (tot.length : Int)))).bind fun z29 =>
  some ()
def m_flood_b3 (x67 : Int) (s74 : ((List (Option Int)) × (List Int))) (x80 : Int) : Option ((List (Option Int)) × (List Int)) :=
  ((at_ s74.1 x80).bind fun x87 =>
  if x87.isNone = true then ((at_ s74.1 x67).bind fun x91 =>
  (x91).bind fun x95 =>
  (setAt s74.1 x80 (some (x95 + (1 : Int)))).bind fun x96 =>
  (app s74.2 x80).bind fun x99 =>
  some (x96, x99)) else (some (s74.1, s74.2)) : Option ((List (Option Int)) × (List Int))).bind fun s86 =>
  some (s86.1, s86.2)
def m_flood_b2 (d0 : (Int × (List Int) × (List (Int × Int)) × (List Int) × (List Int) × (List (List Int)))) (d2 : (List Bool)) (s63 : ((List (Option Int)) × (List Int))) (x67 : Int) : Option ((List (Option Int)) × (List Int)) :=
  (m_allowed_neighbours_l d0 x67 d2).bind fun tt71 =>
  (m_allowed_neighbours d0 x67 d2 tt71).bind fun z72 =>
  (forN (m_flood_b3 x67) (s63.1, s63.2) tt71).bind fun s74 =>
  some (s74.1, s74.2)
def m_flood_c1  (s40 : ((List (Option Int)) × (List Int))) : Option Bool :=
  some (!s40.2.isEmpty)
def m_flood_b1 (d0 : (Int × (List Int) × (List (Int × Int)) × (List Int) × (List Int) × (List (List Int)))) (d2 : (List Bool)) (s40 : ((List (Option Int)) × (List Int))) : Option ((List (Option Int)) × (List Int)) :=
  (forN (m_flood_b2 d0 d2) (s40.1, ([] : (List Int))) s40.2).bind fun s63 =>
  some (s63.1, s63.2)
def m_flood (d0 : (Int × (List Int) × (List (Int × Int)) × (List Int) × (List Int) × (List (List Int)))) (d1 : Int) (d2 : (List Bool)) : Option (List (Option Int)) :=
  (repL [(none : (Option Int))] d0.1).bind fun x15 =>
  (at_ d2 d1).bind fun x24 =>
  if (!x24) = true then
  (some x15)
  else
  (setAt x15 d1 (some (0 : Int))).bind fun x28 =>
  (whileN (m_flood_c1) (m_flood_b1 d0 d2) 1000 (x28, [d1])).bind fun s40 =>
  some s40.1
def m_sight_zone_b1 (d1 : (Int × (List Nat) × Int)) (q15 : (List (Option Int))) (s29 : (List Int)) (x39 : Int) : Option (List Int) :=
  (at_ q15 x39).bind fun x48 =>
  (if x48.isSome = true then (at_ q15 x39).bind fun x53 => (x53).bind fun x61 => some (decide (x61 ≤ d1.2.2)) else some false).bind fun b62 =>
  if b62 = true then ((app s29 x39).bind fun x63 =>
  some x63) else (some s29)
def m_sight_zone (d0 : (Int × (List Int) × (List (Int × Int)) × (List Int) × (List Int) × (List (List Int)))) (d1 : (Int × (List Nat) × Int)) : Option (List Int) :=
  (m_every_place d0).bind fun q7 =>
  (m_flood d0 d1.1 q7).bind fun q15 =>
  (rngO 0 d0.1).bind fun g27 =>
  (forN (m_sight_zone_b1 d1 q15) ([] : (List Int)) g27).bind fun s29 =>
  some s29
def m_l_hand (d0 : (List Int)) (d1 : Int) : Option (List Int) :=
  pyLet ((0 : Int) : Int) fun cell3 =>
  (if (decide (d1 < (d0.length : Int))) = true then ((at_ d0 d1).bind fun x5 =>
  pyLet (x5 : Int) fun cell6 =>
  some cell6) else (some cell3) : Option Int).bind fun s4 =>
  (if (decide (s4 < (0 : Int))) = true then (pyLet (((1 : Int) - ((2 : Int) * s4)) : Int) fun cell8 =>
  some cell8) else (some s4) : Option Int).bind fun s7 =>
  pyLet ((0 : Int) : Int) fun rest9 =>
  (if (decide (((10 : Int) ^ 18) ≤ s7)) = true then (pyLet (s7 : Int) fun rest11 =>
  some rest11) else (some rest9) : Option Int).bind fun s10 =>
  some [s10, (((s7 + ((7919 : Int) * d1)) + (13 : Int)) % (2147483647 : Int)), (0 : Int)]
def m_l_pick (d0 : (List Int)) (d1 : Int) : Option (Int × (List Int)) :=
  if (decide (d1 < (1 : Int))) = true then
  (some ((0 : Int), d0))
  else
  (at_ d0 (0 : Int)).bind fun x3 =>
  if (decide ((0 : Int) < x3)) = true then
  ((at_ d0 (0 : Int)).bind fun x4 =>
  (mod x4 d1).bind fun x5 =>
  pyLet (x5 : Int) fun digit6 =>
  (at_ d0 (0 : Int)).bind fun x7 =>
  (fdiv x7 d1).bind fun x8 =>
  (setAt d0 (0 : Int) x8).bind fun x9 =>
  some (digit6, x9))
  else
  (at_ d0 (2 : Int)).bind fun x12 =>
  (setAt d0 (2 : Int) (x12 + (1 : Int))).bind fun x13 =>
  (at_ x13 (1 : Int)).bind fun x16 =>
  (at_ x13 (2 : Int)).bind fun x17 =>
  pyLet ((((x16 + ((7919 : Int) * x17)) + (13 : Int)) % (2147483647 : Int)) : Int) fun mixed18 =>
  (mul mixed18 (mixed18 + (48271 : Int))).bind fun x19 =>
  pyLet ((x19 % (2147483629 : Int)) : Int) fun mixed20 =>
  (mul mixed20 (mixed20 + (69621 : Int))).bind fun x21 =>
  (at_ x13 (2 : Int)).bind fun x22 =>
  pyLet (((x21 + ((31 : Int) * x22)) % (2147483647 : Int)) : Int) fun mixed23 =>
  (mod (mixed23 / (9 : Int)) d1).bind fun x24 =>
  some (x24, x13)
def m_l_int_0 (d0 : Int) : Option Bool :=
  some (true && (!false))
def m_l_int_1 (d0 : (Option Int)) : Option Bool :=
  some ((d0.isSome && true) && (!(d0.isSome && false)))
def m_l_some_b1 (d2 : Int) (s13 : ((List Int) × (List Int))) (x16 : Int) : Option ((List Int) × (List Int)) :=
  ((m_l_pick s13.1 d2).bind fun q19 =>
  if (decide (q19.1 = (0 : Int))) = true then ((app s13.2 x16).bind fun x22 =>
  some (q19.2, x22)) else (some (q19.2, s13.2)) : Option ((List Int) × (List Int))).bind fun s18 =>
  some (s18.1, s18.2)
def m_l_some (d0 : (List Int)) (d1 : Int) (d2 : Int) : Option ((List Int) × (List Int)) :=
  (rngO 0 d1).bind fun g11 =>
  (forN (m_l_some_b1 d2) (d0, ([] : (List Int))) g11).bind fun s13 =>
  some (s13.2, s13.1)
def m_l_sea_b2 (x54 : Int) (s64 : ((List Int) × (List (Int × Int)))) (x67 : Int) : Option ((List Int) × (List (Int × Int))) :=
  ((m_l_pick s64.1 (4 : Int)).bind fun q70 =>
  if (decide ((0 : Int) < q70.1)) = true then ((app s64.2 (x67, x54)).bind fun x78 =>
  some (q70.2, x78)) else (some (q70.2, s64.2)) : Option ((List Int) × (List (Int × Int)))).bind fun s69 =>
  some (s69.1, s69.2)
def m_l_sea_b1 (x17 : Int) (s50 : ((List Int) × (List Int) × (List (Int × Int)))) (x54 : Int) : Option ((List Int) × (List Int) × (List (Int × Int))) :=
  (m_l_pick s50.1 x17).bind fun q56 =>
  (app s50.2.1 q56.1).bind fun x59 =>
  (rngO 0 x54).bind fun g62 =>
  (forN (m_l_sea_b2 x54) (q56.2, s50.2.2) g62).bind fun s64 =>
  some (s64.1, x59, s64.2)
def m_l_sea_b3 (x30 : Int) (s95 : ((List Int) × (List Int))) (x98 : Int) : Option ((List Int) × (List Int)) :=
  (m_l_pick s95.1 x30).bind fun q100 =>
  (app s95.2 q100.1).bind fun x103 =>
  some (q100.2, x103)
def m_l_sea (d0 : (List Int)) (d1 : Int) : Option (((List Int) × (List (Int × Int)) × (List Int) × (List Int)) × (List Int)) :=
  (m_l_pick d0 d1).bind fun q3 =>
  pyLet (((1 : Int) + q3.1) : Int) fun size6 =>
  (m_l_pick q3.2 (3 : Int)).bind fun q14 =>
  (at_ [(2 : Int), (6 : Int), (100 : Int)] q14.1).bind fun x17 =>
  (m_l_pick q14.2 (3 : Int)).bind fun q27 =>
  (at_ [(1 : Int), (4 : Int), (21 : Int)] q27.1).bind fun x30 =>
  (rngO 0 size6).bind fun g48 =>
  (forN (m_l_sea_b1 x17) (q27.2, ([] : (List Int)), ([] : (List (Int × Int)))) g48).bind fun s50 =>
  (m_l_pick s50.1 (3 : Int)).bind fun q90 =>
  (rngO 0 q90.1).bind fun g93 =>
  (forN (m_l_sea_b3 x30) (q90.2, [(0 : Int)]) g93).bind fun s95 =>
  (m_l_some s95.1 size6 (4 : Int)).bind fun q106 =>
  some ((s50.2.1, s50.2.2, s95.2, q106.1), q106.2)
def m_l_chart (d0 : ((List Int) × (List (Int × Int)) × (List Int) × (List Int))) : Option (Int × (List Int) × (List (Int × Int)) × (List Int) × (List Int) × (List (List Int))) :=
  (m_Chart_init (d0.1, d0.2.1, d0.2.2.1, d0.2.2.2).1 (d0.1, d0.2.1, d0.2.2.1, d0.2.2.2).2.1 (d0.1, d0.2.1, d0.2.2.1, d0.2.2.2).2.2.1 (d0.1, d0.2.1, d0.2.2.1, d0.2.2.2).2.2.2).bind fun q123 =>
  some q123
def m_l_touches_b1 (d1 : (List Int)) (d2 : Int) (s11 : Unit) (x14 : (Int × Int)) : Option (Bool ⊕ Unit) :=
  if ((decide (x14.1 = d2)) && (d1.contains x14.2)) = true then
  (some (.inl true))
  else
  if ((decide (x14.2 = d2)) && (d1.contains x14.1)) = true then
  (some (.inl true))
  else
  some (.inr ())
def m_l_touches (d0 : ((List Int) × (List (Int × Int)) × (List Int) × (List Int))) (d1 : (List Int)) (d2 : Int) : Option Bool :=
  (forR (m_l_touches_b1 d1 d2) () d0.2.1).bind fun e10 => orR e10 fun s11 =>
  some false
def m_l_thinned_b1  (s7 : (List (Int × Int))) (x18 : (Int × Int)) : Option (List (Int × Int)) :=
  if (decide (x18.2 = (x18.1 + (1 : Int)))) = true then ((app s7 x18).bind fun x39 =>
  some x39) else (some s7)
def m_l_thinned_b2  (s43 : (List (Int × Int))) (x54 : (Int × Int)) : Option (List (Int × Int)) :=
  if (decide (x54.1 = (x54.2 / (2 : Int)))) = true then ((app s43 x54).bind fun x75 =>
  some x75) else (some s43)
def m_l_thinned_b3  (s79 : ((List (Int × Int)) × (List Int))) (x90 : (Int × Int)) : Option ((List (Int × Int)) × (List Int)) :=
  (m_l_pick s79.2 (3 : Int)).bind fun q99 =>
  if (decide (q99.1 = (0 : Int))) = true then ((app s79.1 x90).bind fun x102 =>
  some (x102, q99.2)) else (some (s79.1, q99.2))
def m_l_thinned (d0 : (List Int)) (d1 : (List (Int × Int))) : Option ((List (Int × Int)) × (List Int)) :=
  (m_l_pick d0 (4 : Int)).bind fun q3 =>
  if (decide (q3.1 = (1 : Int))) = true then
  ((forN (m_l_thinned_b1) ([] : (List (Int × Int))) d1).bind fun s7 =>
  some (s7, q3.2))
  else
  if (decide (q3.1 = (2 : Int))) = true then
  ((forN (m_l_thinned_b2) ([] : (List (Int × Int))) d1).bind fun s43 =>
  some (s43, q3.2))
  else
  if (decide (q3.1 = (3 : Int))) = true then
  ((forN (m_l_thinned_b3) (([] : (List (Int × Int))), q3.2) d1).bind fun s79 =>
  some (s79.1, s79.2))
  else
  some (d1, q3.2)
def m_l_near_b2 (d0 : ((List Int) × (List (Int × Int)) × (List Int) × (List Int))) (s13 : (List Int)) (s32 : (List Int)) (x43 : Int) : Option (List Int) :=
  ( if (s13.contains x43) = true then some true else (m_l_touches d0 s13 x43).bind fun q53 => some q53 : Option Bool).bind fun b52 =>
  if b52 = true then ((app s32 x43).bind fun x56 =>
  some x56) else (some s32)
def m_l_near_b1 (d0 : ((List Int) × (List (Int × Int)) × (List Int) × (List Int))) (s13 : (List Int)) (x21 : Int) : Option (List Int) :=
  (rngO 0 (d0.1.length : Int)).bind fun g30 =>
  (forN (m_l_near_b2 d0 s13) ([] : (List Int)) g30).bind fun s32 =>
  some s32
def m_l_near (d0 : ((List Int) × (List (Int × Int)) × (List Int) × (List Int))) (d1 : Int) (d2 : Int) : Option (List Int) :=
  (rngO 0 d2).bind fun g11 =>
  (forN (m_l_near_b1 d0) [d1] g11).bind fun s13 =>
  some s13
def m_l_is_zone_b1  (s5 : (List Int)) (x16 : Int) : Option (List Int) :=
  (m_l_int_0 x16).bind fun q25 =>
  if (!q25) = true then ((app s5 x16).bind fun x28 =>
  some x28) else (some s5)
def m_l_is_zone (d0 : (List Int)) (d1 : (List Int)) : Option Bool :=
  ( if true = true then (forN (m_l_is_zone_b1) ([] : (List Int)) d0).bind fun s5 => if (decide ((s5.length : Int) = (0 : Int))) = true then some (decide (d0 = d1)) else some false else some false : Option Bool).bind fun b3 =>
  some b3
def m_l_sights_hold (d0 : (List (Int × (List Int) × (List (Int × Int)) × (List Int) × (List Int) × (List (List Int))))) (d1 : (List ((List Int) × (List (Int × Int)) × (List Int) × (List Int)))) (d2 : (Int × (List Nat) × Int)) (d3 : Int) (d4 : Int) : Option Bool :=
  (at_ d1 (1 : Int)).bind fun x6 =>
  (m_l_near x6 d3 d4).bind fun q14 =>
  (at_ d0 (1 : Int)).bind fun x24 =>
  (m_sight_zone x24 d2).bind fun q28 =>
  (m_l_is_zone q28 q14).bind fun q39 =>
  if (!q39) = true then
  (some false)
  else
  (at_ d0 (0 : Int)).bind fun x42 =>
  (m_sight_zone x42 d2).bind fun q46 =>
  (at_ d1 (0 : Int)).bind fun x58 =>
  (m_l_near x58 d3 d4).bind fun q69 =>
  (m_l_is_zone q46 q69).bind fun q82 =>
  if (!q82) = true then
  (some false)
  else
  (app q28 (99 : Int)).bind fun x85 =>
  (at_ d0 (1 : Int)).bind fun x88 =>
  (m_sight_zone x88 d2).bind fun q92 =>
  (m_l_is_zone q92 q14).bind fun q104 =>
  some q104
def m_law_b2 (q23 : (((List Int) × (List (Int × Int)) × (List Int) × (List Int)) × (List Int))) (q60 : ((List (Int × Int)) × (List Int))) (q95 : (Int × (List Int) × (List (Int × Int)) × (List Int) × (List Int) × (List (List Int)))) (q100 : (Int × (List Int) × (List (Int × Int)) × (List Int) × (List Int) × (List (List Int)))) (q147 : (Int × (List Int))) (x163 : (List Nat)) (s177 : Unit) (x181 : Int) : Option (Bool ⊕ Unit) :=
  (m_Light_init q147.1 x163 x181).bind fun q199 =>
  (m_l_sights_hold [q95, q100] [q23.1, (q23.1.1, q60.1, q23.1.2.2.1, q23.1.2.2.2)] q199 q147.1 x181).bind fun q212 =>
  if (!q212) = true then
  (some (.inl false))
  else
  if ((!(decide (q199.1 = q147.1))) || ((!(decide (q199.2.1 = x163))) || (!(decide (q199.2.2 = x181))))) = true then
  (some (.inl false))
  else
  some (.inr ())
def m_law_b1 (q23 : (((List Int) × (List (Int × Int)) × (List Int) × (List Int)) × (List Int))) (q60 : ((List (Int × Int)) × (List Int))) (q95 : (Int × (List Int) × (List (Int × Int)) × (List Int) × (List Int) × (List (List Int)))) (q100 : (Int × (List Int) × (List (Int × Int)) × (List Int) × (List Int) × (List (List Int)))) (s128 : (List Int)) (x135 : Int) : Option (Bool ⊕ (List Int)) :=
  (m_l_pick s128 (q23.1.1.length : Int)).bind fun q147 =>
  (m_l_pick q147.2 (4 : Int)).bind fun q160 =>
  (at_ [([42] : List Nat), ([46] : List Nat), ([42, 42, 46] : List Nat), ([46, 46, 46, 46] : List Nat)] q160.1).bind fun x163 =>
  (forR (m_law_b2 q23 q60 q95 q100 q147 x163) () [(2 : Int), (0 : Int), (3 : Int), (1 : Int)]).bind fun e176 => orL e176 fun s177 =>
  some (.inr q160.2)
def m_law (d0 : (List Int)) : Option Bool :=
  (m_l_hand d0 (0 : Int)).bind fun q2 =>
  (m_l_pick q2 (8 : Int)).bind fun q17 =>
  (at_ [(6 : Int), (6 : Int), (6 : Int), (6 : Int), (6 : Int), (6 : Int), (6 : Int), (12 : Int)] q17.1).bind fun x20 =>
  (m_l_sea q17.2 x20).bind fun q23 =>
  (m_l_hand d0 (1 : Int)).bind fun q40 =>
  (m_l_thinned q40 q23.1.2.1).bind fun q60 =>
  (m_l_chart q23.1).bind fun q95 =>
  (m_l_chart (q23.1.1, q60.1, q23.1.2.2.1, q23.1.2.2.2)).bind fun q100 =>
  (m_l_hand d0 (2 : Int)).bind fun q114 =>
  (rngO 0 (3 : Int)).bind fun g126 =>
  (forR (m_law_b1 q23 q60 q95 q100) q114 g126).bind fun e127 => orR e127 fun s128 =>
  some true
end Mi

namespace Mi
/-! ### draws -/
def Hd (h : List Int) : Prop := ∃ a b c : Int, h = [a, b, c] ∧ 0 ≤ a
theorem mod_ok {i j : Int} (h : 0 < j) : mod i j = some (i % j) := if_pos h
theorem fdiv_ok {i j : Int} (h : 0 < j) (h2 : j < 2 ^ 200) : fdiv i j = some (i / j) := if_pos ⟨h, h2⟩
theorem mul_okL {i j : Int} (h : -(2 ^ 64) < i) (h2 : i < 2 ^ 64) : mul i j = some (i * j) := if_pos (.inl ⟨h, h2⟩)
theorem mul_okR {i j : Int} (h : -(2 ^ 64) < j) (h2 : j < 2 ^ 64) : mul i j = some (i * j) := if_pos (.inr ⟨h, h2⟩)
theorem app_ok {α : Type} {xs : List α} {x : α} (h : xs.length < big) : app xs x = some (xs ++ [x]) := if_pos h
theorem cat_ok {α : Type} {xs ys : List α} (h : xs.length + ys.length ≤ big) : cat xs ys = some (xs ++ ys) := if_pos h
theorem rngO_ok {lo hi : Int} (h1 : -(2 ^ 60) ≤ lo) (h2 : lo < 2 ^ 60) (h3 : -(2 ^ 60) ≤ hi) (h4 : hi < 2 ^ 60) : rngO lo hi = some (rng lo hi) := if_pos ⟨⟨h1, h2⟩, h3, h4⟩
theorem rngDownO_ok {lo hi : Int} (h1 : -(2 ^ 60) ≤ lo) (h2 : lo < 2 ^ 60) (h3 : -(2 ^ 60) ≤ hi) (h4 : hi < 2 ^ 60) : rngDownO lo hi = some (rngDown lo hi) := if_pos ⟨⟨h1, h2⟩, h3, h4⟩
theorem at0 {α : Type} (a : α) (l : List α) : at_ (a :: l) 0 = some a := by
  unfold at_ ixN
  rw [if_pos (by decide), if_pos (by rw [List.length_cons]; omega)]
  rfl
theorem at_nat {α : Type} {xs : List α} {j : Nat} {x : α} (h : xs[j]? = some x) : at_ xs (j : Int) = some x := by
  have hj : j < xs.length := (List.getElem?_eq_some_iff.mp h).1
  unfold at_ ixN
  rw [if_pos (by omega), if_pos (by omega), Int.toNat_natCast]
  exact h
theorem at_int {α : Type} {xs : List α} {i : Int} {x : α} (h0 : 0 ≤ i) (h : xs[i.toNat]? = some x) : at_ xs i = some x := by
  have e : i = (i.toNat : Int) := by omega
  rw [e]; exact at_nat h
theorem at_some {α : Type} {xs : List α} {i : Int} (h0 : 0 ≤ i) (h1 : i < xs.length) : ∃ x, at_ xs i = some x ∧ xs[i.toNat]? = some x := by
  have hj : i.toNat < xs.length := by omega
  exact ⟨xs[i.toNat], at_int h0 (List.getElem?_eq_getElem hj), List.getElem?_eq_getElem hj⟩
theorem hand_ok (s : List Int) (k : Int) (hk : 0 ≤ k) : ∃ h, m_l_hand s k = some h ∧ Hd h := by
  simp only [m_l_hand, pyLet]
  have hc : ∃ c, (if decide (k < (s.length : Int)) = true then (at_ s k).bind fun x3 => some x3 else some 0 : Option Int) = some c := by
    by_cases h : k < (s.length : Int)
    · rw [if_pos (decide_eq_true h)]
      obtain ⟨x, hx, _⟩ := at_some hk h
      rw [hx]
      exact ⟨x, rfl⟩
    · rw [if_neg (by simpa using h)]
      exact ⟨0, rfl⟩
  obtain ⟨c, hc⟩ := hc
  rw [hc]
  show ∃ h, (Option.bind (if decide (c < 0) = true then some (1 - 2 * c) else some c) _) = some h ∧ Hd h
  have hd : ∃ d, (if decide (c < 0) = true then some (1 - 2 * c) else some c) = some d ∧ 0 ≤ d := by
    by_cases h : c < 0
    · rw [if_pos (decide_eq_true h)]
      exact ⟨_, rfl, by omega⟩
    · rw [if_neg (by simpa using h)]
      exact ⟨c, rfl, by omega⟩
  obtain ⟨d, hd, h0⟩ := hd
  rw [hd]
  show ∃ h, (Option.bind (if decide (((10 : Int) ^ 18) ≤ d) = true then some d else some 0) _) = some h ∧ Hd h
  by_cases h : ((10 : Int) ^ 18) ≤ d
  · rw [if_pos (decide_eq_true h)]
    exact ⟨_, rfl, _, _, _, rfl, h0⟩
  · rw [if_neg (by simpa using h)]
    exact ⟨_, rfl, _, _, _, rfl, by omega⟩
theorem pick_ok {h : List Int} (hh : Hd h) {n : Int} (hn : 1 ≤ n) (hN : n < 2 ^ 200) : ∃ r h', m_l_pick h n = some (r, h') ∧ 0 ≤ r ∧ r < n ∧ Hd h' := by
  obtain ⟨a, b, c, rfl, ha⟩ := hh
  have i0 : ∀ x y z : Int, at_ [x, y, z] 0 = some x := fun _ _ _ => rfl
  have i1 : ∀ x y z : Int, at_ [x, y, z] 1 = some y := fun _ _ _ => rfl
  have i2 : ∀ x y z : Int, at_ [x, y, z] 2 = some z := fun _ _ _ => rfl
  have s0 : ∀ x y z u : Int, setAt [x, y, z] 0 u = some [u, y, z] := fun _ _ _ _ => rfl
  have s2 : ∀ x y z u : Int, setAt [x, y, z] 2 u = some [x, y, u] := fun _ _ _ _ => rfl
  unfold m_l_pick pyLet
  rw [if_neg (by simp; omega)]
  simp only [i0, i1, i2, s0, s2, Option.bind_some]
  by_cases h : 0 < a
  · rw [if_pos (decide_eq_true h), mod_ok (by omega)]
    simp only [Option.bind_some]
    rw [fdiv_ok (by omega) hN]
    simp only [Option.bind_some, s0]
    exact ⟨_, _, rfl, Int.emod_nonneg _ (by omega), Int.emod_lt_of_pos _ (by omega), _, _, _, rfl, Int.ediv_nonneg ha (by omega)⟩
  · rw [if_neg (by simpa using h)]
    have m1 := Int.emod_nonneg (b + 7919 * (c + 1) + 13) (show (2147483647 : Int) ≠ 0 by decide)
    have m2 := Int.emod_lt_of_pos (b + 7919 * (c + 1) + 13) (show (0 : Int) < 2147483647 by decide)
    rw [mul_okL (by omega) (by omega)]
    simp only [Option.bind_some]
    have m3 := Int.emod_nonneg ((b + 7919 * (c + 1) + 13) % 2147483647 * ((b + 7919 * (c + 1) + 13) % 2147483647 + 48271)) (show (2147483629 : Int) ≠ 0 by decide)
    have m4 := Int.emod_lt_of_pos ((b + 7919 * (c + 1) + 13) % 2147483647 * ((b + 7919 * (c + 1) + 13) % 2147483647 + 48271)) (show (0 : Int) < 2147483629 by decide)
    rw [mul_okL (by omega) (by omega)]
    simp only [Option.bind_some]
    rw [mod_ok (by omega)]
    exact ⟨_, _, rfl, Int.emod_nonneg _ (by omega), Int.emod_lt_of_pos _ (by omega), _, _, _, rfl, ha⟩

/-! ### ranges and loops -/
theorem rng_nil {lo hi : Int} (h : hi ≤ lo) : rng lo hi = [] := by
  unfold rng
  have e : (hi - lo).toNat = 0 := by omega
  rw [e]; rfl
theorem rng_cons {lo hi : Int} (h : lo < hi) : rng lo hi = lo :: rng (lo + 1) hi := by
  unfold rng
  have e : (hi - lo).toNat = (hi - (lo + 1)).toNat + 1 := by omega
  rw [e, List.range_succ_eq_map, List.map_cons, List.map_map]
  congr 1
  · omega
  · apply List.map_congr_left
    intro k _
    show lo + ((k + 1 : Nat) : Int) = lo + 1 + (k : Int)
    omega
theorem rngDown_nil {lo hi : Int} (h : lo ≤ hi) : rngDown lo hi = [] := by
  unfold rngDown
  have e : (lo - hi).toNat = 0 := by omega
  rw [e]; rfl
theorem rngDown_cons {lo hi : Int} (h : hi < lo) : rngDown lo hi = lo :: rngDown (lo - 1) hi := by
  unfold rngDown
  have e : (lo - hi).toNat = (lo - 1 - hi).toNat + 1 := by omega
  rw [e, List.range_succ_eq_map, List.map_cons, List.map_map]
  congr 1
  · omega
  · apply List.map_congr_left
    intro k _
    show lo - ((k + 1 : Nat) : Int) = lo - 1 - (k : Int)
    omega
theorem rng_length (lo hi : Int) : (rng lo hi).length = (hi - lo).toNat := by unfold rng; rw [List.length_map, List.length_range]
theorem mem_rng {lo hi x : Int} : x ∈ rng lo hi ↔ lo ≤ x ∧ x < hi := by
  unfold rng
  rw [List.mem_map]
  constructor
  · rintro ⟨k, hk, rfl⟩
    rw [List.mem_range] at hk
    omega
  · intro h
    exact ⟨(x - lo).toNat, List.mem_range.mpr (by omega), by omega⟩
theorem at_app {α : Type} (pre : List α) (x : α) (post : List α) : at_ (pre ++ x :: post) (pre.length : Int) = some x := at_nat (by
  rw [List.getElem?_append_right (Nat.le_refl _), Nat.sub_self]; rfl)
/-- a loop that keeps P runs through -/
theorem forN_inv {α σ : Type} {f : σ → α → Option σ} (P : σ → Prop) : ∀ {xs : List α} {s : σ}, P s → (∀ s x, x ∈ xs → P s → ∃ s', f s x = some s' ∧ P s') → ∃ e, forN f s xs = some e ∧ P e
  | [], s, h0, _ => ⟨s, rfl, h0⟩
  | x :: xs, s, h0, h => by
    obtain ⟨s', e, h1⟩ := h s x (List.mem_cons_self ..) h0
    obtain ⟨e2, h2, h3⟩ := forN_inv P (xs := xs) h1 fun s y hy => h s y (List.mem_cons_of_mem _ hy)
    exact ⟨e2, by show (f s x).bind _ = _; rw [e]; exact h2, h3⟩
theorem forN_nil {α σ : Type} (f : σ → α → Option σ) (s : σ) : forN f s [] = some s := rfl
theorem forN_cons {α σ : Type} (f : σ → α → Option σ) (s : σ) (x : α) (xs : List α) : forN f s (x :: xs) = (f s x).bind fun s' => forN f s' xs := rfl
theorem forR_nil {α σ ρ : Type} (f : σ → α → Option (ρ ⊕ σ)) (s : σ) : forR f s [] = some (.inr s) := rfl
theorem forR_step {α σ ρ : Type} {f : σ → α → Option (ρ ⊕ σ)} {s s' : σ} {x : α} {xs : List α} (h : f s x = some (.inr s')) : forR f s (x :: xs) = forR f s' xs := by
  show (f s x).bind _ = _
  rw [h]; rfl
/-- a search that finds nothing to return -/
theorem forR_all {α ρ : Type} {f : Unit → α → Option (ρ ⊕ Unit)} : ∀ {xs : List α}, (∀ x ∈ xs, f () x = some (.inr ())) → forR f () xs = some (.inr ())
  | [], _ => rfl
  | x :: xs, h => by
    rw [forR_step (h x (List.mem_cons_self ..))]
    exact forR_all fun y hy => h y (List.mem_cons_of_mem _ hy)
/-- a loop that appends what h gives -/
theorem forN_flat {α β : Type} {f : List β → α → Option (List β)} (h : α → List β) (h1 : ∀ x, (h x).length ≤ 1) : ∀ {xs : List α} {acc : List β}, acc.length + xs.length ≤ big → (∀ acc x, x ∈ xs → acc.length < big → f acc x = some (acc ++ h x)) → forN f acc xs = some (acc ++ xs.flatMap h)
  | [], acc, _, _ => by rw [List.flatMap_nil, List.append_nil]; rfl
  | x :: xs, acc, hb, hf => by
    rw [List.length_cons] at hb
    rw [forN_cons, hf acc x (List.mem_cons_self ..) (by omega), Option.bind_some, forN_flat h h1 (by rw [List.length_append]; have := h1 x; omega) fun a y hy => hf a y (List.mem_cons_of_mem _ hy), List.flatMap_cons, List.append_assoc]
/-- a walk by index is a walk over the pairs -/
theorem forN_index {α σ : Type} {f : σ → Int → Option σ} {g : σ → Int × α → Option σ} : ∀ (suf pre : List α) (s : σ), (∀ s (k : Nat) x, (pre ++ suf)[k]? = some x → f s (k : Int) = g s ((k : Int), x)) → forN f s (rng (pre.length : Int) ((pre ++ suf).length : Int)) = forN g s (enumF (pre.length : Int) suf)
  | [], pre, s, _ => by rw [rng_nil (by rw [List.append_nil]; omega)]; rfl
  | x :: suf, pre, s, h => by
    rw [rng_cons (by rw [List.length_append, List.length_cons]; omega)]
    show (f s (pre.length : Int)).bind _ = (g s ((pre.length : Int), x)).bind _
    rw [h s pre.length x (by rw [List.getElem?_append_right (Nat.le_refl _), Nat.sub_self]; rfl)]
    congr 1
    funext s'
    have e : pre ++ x :: suf = (pre ++ [x]) ++ suf := by rw [List.append_assoc]; rfl
    have e2 : ((pre ++ [x]).length : Int) = (pre.length : Int) + 1 := by rw [List.length_append]; rfl
    have z := forN_index suf (pre ++ [x]) s' (f := f) (g := g) (fun s k y hy => h s k y (by rw [e]; exact hy))
    rw [e2] at z
    rw [e]; exact z
theorem forN_index0 {α σ : Type} {f : σ → Int → Option σ} {g : σ → Int × α → Option σ} (xs : List α) (s : σ) (h : ∀ s (k : Nat) x, xs[k]? = some x → f s (k : Int) = g s ((k : Int), x)) : forN f s (rng 0 (xs.length : Int)) = forN g s (enumF 0 xs) := forN_index xs [] s h
theorem enumF_length {α : Type} : ∀ (k : Int) (xs : List α), (enumF k xs).length = xs.length
  | _, [] => rfl
  | k, _ :: ys => by show (enumF (k + 1) ys).length + 1 = ys.length + 1; rw [enumF_length]
theorem enumF_mem {α : Type} : ∀ (k : Int) (xs : List α) {p : Int × α}, p ∈ enumF k xs → p.2 ∈ xs
  | _, [], _, h => by cases h
  | k, y :: ys, p, h => by
    rcases List.mem_cons.mp h with rfl | h
    · exact List.mem_cons_self ..
    · exact List.mem_cons_of_mem _ (enumF_mem (k + 1) ys h)
theorem sortI_self {xs : List Int} (h : xs.Pairwise (· ≤ ·)) : sortI xs = xs := List.mergeSort_of_pairwise (List.Pairwise.imp (fun z => decide_eq_true z) h)
theorem at_mem {α : Type} {xs : List α} {i : Int} (h0 : 0 ≤ i) (h1 : i < xs.length) : ∃ x, at_ xs i = some x ∧ x ∈ xs := by
  obtain ⟨x, e, g⟩ := at_some h0 h1
  exact ⟨x, e, List.mem_of_getElem? g⟩
theorem popAt_ok {α : Type} {xs : List α} {i : Int} (h0 : 0 ≤ i) (h1 : i < xs.length) : ∃ x, popAt xs i = some (x, xs.eraseIdx i.toNat) := by
  have hj : i.toNat < xs.length := by omega
  refine ⟨xs[i.toNat], ?_⟩
  unfold popAt ixN
  rw [if_pos h0, if_pos h1, Option.bind_some, List.getElem?_eq_getElem hj]
  rfl
theorem guard_ok {c : Bool} (h : c = true) : guardO c = some () := if_pos h
theorem pairwise_flat {α : Type} {r : α → α → Prop} {h : α → List α} (hs : ∀ x, h x = [] ∨ h x = [x]) : ∀ {xs : List α}, xs.Pairwise r → (xs.flatMap h).Pairwise r ∧ ∀ y ∈ xs.flatMap h, y ∈ xs
  | [], _ => ⟨by rw [List.flatMap_nil]; exact .nil, fun y hy => by rw [List.flatMap_nil] at hy; exact hy⟩
  | x :: xs, p => by
    have pc := List.pairwise_cons.mp p
    obtain ⟨i1, i2⟩ := pairwise_flat hs pc.2
    rw [List.flatMap_cons]
    rcases hs x with e | e
    · rw [e, List.nil_append]
      exact ⟨i1, fun y hy => List.mem_cons_of_mem _ (i2 y hy)⟩
    · rw [e]
      refine ⟨List.pairwise_cons.mpr ⟨fun y hy => pc.1 y (i2 y hy), i1⟩, fun y hy => ?_⟩
      rcases List.mem_cons.mp hy with rfl | hy
      · exact List.mem_cons_self ..
      · exact List.mem_cons_of_mem _ (i2 y hy)
theorem rng_lt (lo hi : Int) : (rng lo hi).Pairwise (· < ·) := by
  unfold rng
  rw [List.pairwise_map]
  exact List.Pairwise.imp (fun h => by omega) List.pairwise_lt_range
theorem bd {α β : Type} {m : Option α} {f : α → Option β} {x : α} {r : Option β} (h : m = some x) (k : f x = r) : m.bind f = r := by rw [h]; exact k
theorem le_big {n : Nat} (h : n ≤ 100000) : n ≤ big := Nat.le_trans h (by decide)
theorem lt_big {n : Nat} (h : n ≤ 100000) : n < big := Nat.lt_of_le_of_lt h (by decide)
theorem flat_one {α : Type} : ∀ xs : List α, xs.flatMap (fun x => [x]) = xs
  | [] => rfl
  | x :: xs => by rw [List.flatMap_cons, flat_one xs]; rfl
theorem flat_le {α β : Type} {h : α → List β} (h1 : ∀ x, (h x).length ≤ 1) : ∀ xs : List α, (xs.flatMap h).length ≤ xs.length
  | [] => Nat.le_refl _
  | x :: xs => by rw [List.flatMap_cons, List.length_append, List.length_cons]; have := h1 x; have := flat_le h1 xs; omega
theorem ift {α : Type} {b : Bool} {x y r : Option α} (h : b = true) (k : x = r) : (if b = true then x else y) = r := by rw [if_pos h]; exact k
theorem iff' {α : Type} {b : Bool} {x y r : Option α} (h : b = false) (k : y = r) : (if b = true then x else y) = r := by rw [h, if_neg Bool.false_ne_true]; exact k
theorem forN_flatC {α β : Type} {f : List β → α → Option (List β)} (h : α → List β) (c : Nat) : ∀ {xs : List α} {acc : List β}, acc.length + c * xs.length ≤ 100000 → (∀ x ∈ xs, (h x).length ≤ c) → (∀ acc x, x ∈ xs → acc.length + c ≤ 100000 → f acc x = some (acc ++ h x)) → forN f acc xs = some (acc ++ xs.flatMap h)
  | [], acc, _, _, _ => by rw [List.flatMap_nil, List.append_nil]; rfl
  | x :: xs, acc, hb, h1, hf => by
    rw [List.length_cons, Nat.mul_add, Nat.mul_one] at hb
    rw [forN_cons, hf acc x (List.mem_cons_self ..) (by omega), Option.bind_some, forN_flatC h c (by rw [List.length_append]; have := h1 x (List.mem_cons_self ..); omega) (fun y hy => h1 y (List.mem_cons_of_mem _ hy)) fun a y hy => hf a y (List.mem_cons_of_mem _ hy), List.flatMap_cons, List.append_assoc]
theorem enumF_map {α β : Type} (g : α → β) : ∀ (k : Int) (xs : List α), enumF k (xs.map g) = (enumF k xs).map fun p => (p.1, g p.2)
  | _, [] => rfl
  | k, x :: xs => by show (k, g x) :: enumF (k + 1) (xs.map g) = (k, g x) :: _; rw [enumF_map g (k + 1) xs]
theorem flat_map {α β γ : Type} (g : α → β) (h : β → List γ) : ∀ xs : List α, (xs.map g).flatMap h = xs.flatMap fun x => h (g x)
  | [] => rfl
  | x :: xs => by rw [List.map_cons, List.flatMap_cons, List.flatMap_cons, flat_map g h xs]
theorem flat_sing {α β : Type} (g : α → β) : ∀ xs : List α, (xs.flatMap fun x => [g x]) = xs.map g
  | [] => rfl
  | x :: xs => by rw [List.flatMap_cons, flat_sing g xs]; rfl
theorem joinE_sing {α : Type} (g : α → Nat) : ∀ xs : List α, joinL [] (xs.map fun x => [g x]) = xs.map g
  | [] => rfl
  | [_] => rfl
  | x :: y :: r => by
    show [g x] ++ ([] ++ joinL [] ((y :: r).map fun x => [g x])) = _
    rw [joinE_sing g (y :: r)]; rfl
theorem sum_sing {α : Type} (g : α → Nat) : ∀ xs : List α, ((xs.map fun x => [g x]).map (·.length)).sum = xs.length
  | [] => rfl
  | x :: xs => by
    rw [List.map_cons, List.map_cons, List.sum_cons, sum_sing g xs]
    show 1 + xs.length = xs.length + 1
    omega
theorem sJoin_sing {α : Type} (g : α → Nat) {xs : List α} (h : xs.length ≤ 100000) : sJoin [] (xs.map fun x => [g x]) = some (xs.map g) := by
  unfold sJoin
  rw [sum_sing, joinE_sing, if_pos (by show xs.length + _ * 0 ≤ big; rw [Nat.mul_zero]; exact le_big h)]
theorem sLen_ok {s : List Nat} (h : s.length ≤ 100000) : sLen s = some (s.length : Int) := if_pos (le_big h)
theorem sAt_ok {s : List Nat} {i : Int} (h : s.length ≤ 100000) (h0 : 0 ≤ i) (h1 : i < s.length) : sAt s i = some [s[i.toNat]?.getD 0] ∧ s[i.toNat]?.getD 0 ∈ s := by
  obtain ⟨x, e, g⟩ := at_some h0 h1
  unfold sAt
  rw [if_pos (le_big h), e, g]
  exact ⟨rfl, List.mem_of_getElem? g⟩
theorem sCut_ok {s : List Nat} {lo hi : Option Int} (h : s.length ≤ 100000) : sCut s lo hi = some (cut s lo hi) := if_pos (le_big h)
theorem sCat_ok {s t : List Nat} (h : s.length + t.length ≤ 100000) : sCat s t = some (s ++ t) := if_pos (le_big h)
theorem cut_mem {α : Type} {xs : List α} {lo hi : Option Int} {x : α} (h : x ∈ cut xs lo hi) : x ∈ xs := List.mem_of_mem_drop (List.mem_of_mem_take h)
theorem cut_to {α : Type} {xs : List α} {i : Int} (h0 : 0 ≤ i) (h1 : i ≤ xs.length) : (cut xs none (some i)).length = i.toNat := by
  show ((xs.drop 0).take ((if i < 0 then (i + (xs.length : Int)).toNat else min i.toNat xs.length) - 0)).length = _
  rw [if_neg (by omega), List.length_take, List.length_drop]
  omega
theorem cut_from {α : Type} {xs : List α} {i : Int} (h0 : 0 ≤ i) (h1 : i ≤ xs.length) : (cut xs (some i) none).length = xs.length - i.toNat := by
  show ((xs.drop (if i < 0 then (i + (xs.length : Int)).toNat else min i.toNat xs.length)).take (xs.length - (if i < 0 then (i + (xs.length : Int)).toNat else min i.toNat xs.length))).length = _
  rw [if_neg (by omega), List.length_take, List.length_drop]
  omega
theorem map_erase {α β : Type} (f : α → β) : ∀ (xs : List α) (k : Nat), (xs.map f).eraseIdx k = (xs.eraseIdx k).map f
  | [], _ => rfl
  | x :: xs, 0 => rfl
  | x :: xs, k + 1 => by
    show f x :: (xs.map f).eraseIdx k = f x :: (xs.eraseIdx k).map f
    rw [map_erase f xs k]

/-! ### loops by what has been gone through -/
theorem forN_ind {α σ : Type} {f : σ → α → Option σ} (P : List α → σ → Prop) {xs : List α} {s0 : σ} (h0 : P [] s0) (h : ∀ pre x suf s, xs = pre ++ x :: suf → P pre s → ∃ s', f s x = some s' ∧ P (pre ++ [x]) s') : ∃ e, forN f s0 xs = some e ∧ P xs e := by
  have key : ∀ (suf pre : List α) (s : σ), xs = pre ++ suf → P pre s → ∃ e, forN f s suf = some e ∧ P xs e := by
    intro suf
    induction suf with
    | nil => intro pre s e p; rw [List.append_nil] at e; subst e; exact ⟨s, rfl, p⟩
    | cons x suf ih =>
      intro pre s e p
      obtain ⟨s', e1, p1⟩ := h pre x suf s e p
      obtain ⟨r, e2, p2⟩ := ih (pre ++ [x]) s' (by rw [e, List.append_assoc]; rfl) p1
      exact ⟨r, by rw [forN_cons, e1]; exact e2, p2⟩
  exact key xs [] s0 rfl h0
theorem forN_thru {α σ : Type} {f : σ → α → Option σ} (st : List α → σ) {xs : List α} {s0 : σ} (h0 : s0 = st []) (h : ∀ pre x suf, xs = pre ++ x :: suf → f (st pre) x = some (st (pre ++ [x]))) : forN f s0 xs = some (st xs) := by
  obtain ⟨e, h1, h2⟩ := forN_ind (f := f) (fun pre s => s = st pre) h0 (fun pre x suf s e p => ⟨_, by rw [p]; exact h pre x suf e, rfl⟩)
  rw [h1, h2]
theorem forR_thru {α σ ρ : Type} {f : σ → α → Option (ρ ⊕ σ)} (st : List α → σ) {xs : List α} {s0 : σ} (h0 : s0 = st []) (h : ∀ pre x suf, xs = pre ++ x :: suf → f (st pre) x = some (.inr (st (pre ++ [x])))) : forR f s0 xs = some (.inr (st xs)) := by
  subst h0
  have key : ∀ (suf pre : List α), xs = pre ++ suf → forR f (st pre) suf = some (.inr (st xs)) := by
    intro suf
    induction suf with
    | nil => intro pre e; rw [List.append_nil] at e; subst e; rfl
    | cons x suf ih =>
      intro pre e
      rw [forR_step (h pre x suf e)]
      exact ih (pre ++ [x]) (by rw [e, List.append_assoc]; rfl)
  exact key xs [] rfl
theorem mem_mid {α : Type} {xs pre suf : List α} {x : α} (e : xs = pre ++ x :: suf) : x ∈ xs := by rw [e]; exact List.mem_append_right _ (List.mem_cons_self ..)
theorem mem_pre {α : Type} {xs pre suf : List α} {x y : α} (e : xs = pre ++ x :: suf) (h : y ∈ pre) : y ∈ xs := by rw [e]; exact List.mem_append_left _ h
theorem rng_app (lo mid hi : Int) (h1 : lo ≤ mid) (h2 : mid ≤ hi) : rng lo hi = rng lo mid ++ rng mid hi := by
  have key : ∀ (n : Nat) (lo : Int), (mid - lo).toNat = n → lo ≤ mid → rng lo hi = rng lo mid ++ rng mid hi := by
    intro n
    induction n with
    | zero => intro lo e h; have : lo = mid := by omega
              subst this; rw [rng_nil (Int.le_refl _)]; rfl
    | succ n ih =>
      intro lo e h
      rw [rng_cons (lo := lo) (hi := hi) (by omega), rng_cons (lo := lo) (hi := mid) (by omega), ih (lo + 1) (by omega) (by omega)]; rfl
  exact key _ lo rfl h1
theorem rng_mid {lo hi : Int} {pre suf : List Int} {x : Int} (e : rng lo hi = pre ++ x :: suf) : x = lo + pre.length ∧ pre = rng lo x ∧ suf = rng (x + 1) hi ∧ x < hi := by
  induction pre generalizing lo with
  | nil =>
    by_cases h : lo < hi
    · rw [rng_cons h] at e
      obtain ⟨rfl, e2⟩ := List.cons.inj e
      exact ⟨by simp, by rw [rng_nil (Int.le_refl _)], e2.symm, h⟩
    · rw [rng_nil (by omega)] at e; cases e
  | cons y pre ih =>
    by_cases h : lo < hi
    · rw [rng_cons h] at e
      obtain ⟨rfl, e2⟩ := List.cons.inj e
      obtain ⟨h1, h2, h3, h4⟩ := ih e2
      have hl : lo < x := by rw [h1]; omega
      exact ⟨by rw [h1, List.length_cons]; omega, by rw [rng_cons hl, ← h2], h3, h4⟩
    · rw [rng_nil (by omega)] at e; cases e
theorem at_rng {lo hi i : Int} (h0 : 0 ≤ i) (h1 : lo + i < hi) : at_ (rng lo hi) i = some (lo + i) := by
  refine at_int h0 ?_
  unfold rng
  rw [List.getElem?_map, List.getElem?_range (by omega)]
  show some (lo + (i.toNat : Int)) = _
  rw [Int.toNat_of_nonneg h0]
theorem setAt_ok {α : Type} {xs : List α} {i : Int} {x : α} (h0 : 0 ≤ i) (h1 : i < xs.length) : setAt xs i x = some (xs.set i.toNat x) := by
  unfold setAt ixN
  rw [if_pos h0, if_pos h1]; rfl
theorem at_get {α : Type} {xs : List α} {i : Int} {d : α} (h0 : 0 ≤ i) (h1 : i < xs.length) : at_ xs i = some (xs[i.toNat]?.getD d) := by
  obtain ⟨x, e, g⟩ := at_some h0 h1
  rw [e, g]; rfl
theorem contains_true {α : Type} [BEq α] [LawfulBEq α] {xs : List α} {x : α} (h : x ∈ xs) : xs.contains x = true := by rw [List.contains_iff_mem]; exact h
theorem contains_false {α : Type} [BEq α] [LawfulBEq α] {xs : List α} {x : α} (h : x ∉ xs) : xs.contains x = false := by
  cases e : xs.contains x with
  | false => rfl
  | true => exact absurd (List.contains_iff_mem.mp e) h
theorem nodup_mid {α : Type} {xs pre suf : List α} {x : α} (e : xs = pre ++ x :: suf) (h : xs.Nodup) : x ∉ pre := by
  intro hm
  rw [e] at h
  exact (List.pairwise_append.mp h).2.2 x hm x (List.mem_cons_self ..) rfl
theorem lt_nodup {xs : List Int} (h : xs.Pairwise (· < ·)) : xs.Nodup := List.Pairwise.imp (fun z e => by omega) h
theorem lt_len {xs : List Int} {n : Nat} (hp : xs.Pairwise (· < ·)) (hb : ∀ x ∈ xs, 0 ≤ x ∧ x < (n : Int)) : xs.length ≤ n := by
  have h2 : ∀ (n : Nat) (l : List Int) (lo : Int), l.Pairwise (· < ·) → (∀ x ∈ l, lo ≤ x ∧ x < lo + n) → l.length ≤ n := by
    intro n
    induction n with
    | zero =>
      intro l lo _ hb
      cases l with
      | nil => exact Nat.le_refl _
      | cons x l => have := hb x (List.mem_cons_self ..); omega
    | succ n ih =>
      intro l lo hp hb
      cases l with
      | nil => exact Nat.zero_le _
      | cons x l =>
        have hx := hb x (List.mem_cons_self ..)
        have pc := List.pairwise_cons.mp hp
        have := ih l (lo + 1) pc.2 (fun y hy => by
          have h1 := pc.1 y hy
          have h2 := hb y (List.mem_cons_of_mem _ hy)
          omega)
        rw [List.length_cons]; omega
  exact h2 n xs 0 hp (fun x hx => by have := hb x hx; omega)
theorem bdE {α β : Type} {m : Option α} {f : α → Option β} {x : α} {P : β → Prop} (h : m = some x) (k : ∃ r, f x = some r ∧ P r) : ∃ r, m.bind f = some r ∧ P r := by rw [h]; exact k
theorem bf {b : Bool} (h : ¬ b = true) : b = false := by cases b with
  | false => rfl
  | true => exact absurd rfl h
theorem rngL_ok {lo hi : Int} (h1 : -(2 ^ 60) ≤ lo) (h2 : lo < 2 ^ 60) (h3 : -(2 ^ 60) ≤ hi) (h4 : hi < 2 ^ 60) (h5 : (hi - lo).toNat ≤ 1000000) : rngL lo hi = some (rng lo hi) := by
  unfold rngL
  exact if_pos ⟨⟨h1, h2⟩, ⟨h3, h4⟩, h5⟩
theorem rep_flat {α : Type} (x : α) : ∀ n : Nat, (List.replicate n [x]).flatten = List.replicate n x
  | 0 => rfl
  | n + 1 => by rw [List.replicate_succ, List.flatten_cons, rep_flat x n, List.replicate_succ]; rfl
theorem repL_one {α : Type} (x : α) {n : Nat} (h : n ≤ 100000) : repL [x] (n : Int) = some (List.replicate n x) := by
  unfold repL
  have h2 : [x].length * ((n : Int)).toNat ≤ big := by
    rw [List.length_singleton, Nat.one_mul, Int.toNat_natCast]; exact le_big h
  rw [if_pos ⟨by omega, by omega, h2⟩, Int.toNat_natCast, rep_flat]
theorem bdP {α β γ : Type} {m : Option α} {f : α → Option (β × γ)} {x : α} {P : β → γ → Prop} (h : m = some x) (k : ∃ r h', f x = some (r, h') ∧ P r h') : ∃ r h', m.bind f = some (r, h') ∧ P r h' := by rw [h]; exact k
theorem iftP {β γ : Type} {b : Bool} {x y : Option (β × γ)} {P : β → γ → Prop} (h : b = true) (k : ∃ r h', x = some (r, h') ∧ P r h') : ∃ r h', (if b = true then x else y) = some (r, h') ∧ P r h' := by rw [if_pos h]; exact k
theorem iffP {β γ : Type} {b : Bool} {x y : Option (β × γ)} {P : β → γ → Prop} (h : b = false) (k : ∃ r h', y = some (r, h') ∧ P r h') : ∃ r h', (if b = true then x else y) = some (r, h') ∧ P r h' := by rw [h, if_neg Bool.false_ne_true]; exact k
theorem ltE {α β : Type} {e : α} {f : α → Option β} {r : Option β} (k : f e = r) : pyLet e f = r := k
theorem ltP' {α β γ : Type} {e : α} {f : α → Option (β × γ)} {P : β → γ → Prop} (k : ∃ r h', f e = some (r, h') ∧ P r h') : ∃ r h', pyLet e f = some (r, h') ∧ P r h' := k
theorem bdQ {α β γ : Type} {m : Option α} {f : α → Option (β × γ)} {x : α} {P : β → γ → Prop} (h : m = some x) (k : ∃ r h', f x = some (r, h') ∧ P r h') : ∃ r h', m.bind f = some (r, h') ∧ P r h' := bdP h k
theorem fmax (xs : List Int) : ∀ a : Int, (xs.foldl max a = a ∨ xs.foldl max a ∈ xs) ∧ a ≤ xs.foldl max a ∧ ∀ y ∈ xs, y ≤ xs.foldl max a := by
  induction xs with
  | nil => intro a; exact ⟨.inl rfl, Int.le_refl _, fun y h => nomatch h⟩
  | cons x xs ih =>
    intro a
    obtain ⟨h1, h2, h3⟩ := ih (max a x)
    show (xs.foldl max (max a x) = a ∨ _) ∧ a ≤ xs.foldl max (max a x) ∧ _
    refine ⟨?_, by omega, fun y hy => ?_⟩
    · rcases h1 with h1 | h1
      · by_cases hax : x ≤ a
        · exact .inl (by rw [h1]; omega)
        · refine .inr (List.mem_cons.mpr (.inl ?_)); show xs.foldl max (max a x) = x; rw [h1]; omega
      · exact .inr (List.mem_cons_of_mem _ h1)
    · show y ≤ xs.foldl max (max a x)
      rcases List.mem_cons.mp hy with rfl | hy
      · omega
      · exact h3 y hy
theorem lMax_is {xs : List Int} {m : Int} (h : lMax xs = some m) : 0 < xs.length ∧ m ∈ xs ∧ ∀ y ∈ xs, y ≤ m := by
  cases xs with
  | nil => cases h
  | cons x xs =>
    obtain rfl : (x :: xs).foldl max x = m := Option.some.inj h
    obtain ⟨h1, h2, h3⟩ := fmax (x :: xs) x
    refine ⟨Nat.succ_pos _, ?_, h3⟩
    rcases h1 with h1 | h1
    · rw [h1]; exact List.mem_cons_self ..
    · exact h1

/-! ### a drawn sea -/
abbrev SeaT := List Int × List (Int × Int) × List Int × List Int
def LanesU (n : Int) (ls : List (Int × Int)) : Prop := (∀ p ∈ ls, 0 ≤ p.1 ∧ p.1 < p.2 ∧ p.2 < n) ∧ ls.Nodup ∧ ls.length ≤ 66
def TideOk (t : List Int) : Prop := 1 ≤ t.length ∧ t.length ≤ 12 ∧ ∀ x ∈ t, 0 ≤ x ∧ x ≤ 20
def DeepOk (t : List Int) : Prop := 1 ≤ t.length ∧ t.length ≤ 12 ∧ ∀ x ∈ t, 0 ≤ x ∧ x ≤ 99
def PortOk (n : Int) (t : List Int) : Prop := t.Pairwise (· < ·) ∧ ∀ x ∈ t, 0 ≤ x ∧ x < n
def SeaOk (s : SeaT) : Prop := DeepOk s.1 ∧ LanesU s.1.length s.2.1 ∧ TideOk s.2.2.1 ∧ PortOk s.1.length s.2.2.2
theorem some_ok {h : List Int} (hh : Hd h) {n c : Int} (n0 : 0 ≤ n) (n1 : n ≤ 1000) (c0 : 1 ≤ c) (c1 : c ≤ 1000) : ∃ z h', m_l_some h n c = some (z, h') ∧ PortOk n z ∧ Hd h' := by
  simp only [m_l_some]
  rw [rngO_ok (by decide) (by decide) (by omega) (by omega)]; simp only [Option.bind_some]
  obtain ⟨e, he, p1, p2, p3, _⟩ := forN_ind (f := m_l_some_b1 c) (xs := rng 0 n) (s0 := (h, ([] : List Int))) (fun pre s => Hd s.1 ∧ s.2.Pairwise (· < ·) ∧ (∀ x ∈ s.2, 0 ≤ x ∧ x < (pre.length : Int)) ∧ s.2.length ≤ pre.length) ⟨hh, .nil, (fun x hx => nomatch hx), Nat.le_refl _⟩ (fun pre x suf s e hp => by
    obtain ⟨hs, hp1, hp2, hl⟩ := hp
    obtain ⟨e1, e2, _, e4⟩ := rng_mid e
    obtain ⟨r, h1, er, r0, r1, hh1⟩ := pick_ok hs (n := c) c0 (by omega)
    simp only [m_l_some_b1]
    rw [er]; simp only [Option.bind_some]
    have hl2 : ((pre ++ [x]).length : Int) = (pre.length : Int) + 1 := by rw [List.length_append]; rfl
    have hl3 : (pre ++ [x]).length = pre.length + 1 := by rw [List.length_append]; rfl
    by_cases c : r = 0
    · rw [if_pos (decide_eq_true c), app_ok (xs := s.2) (lt_big (by omega))]; simp only [Option.bind_some]
      refine ⟨_, rfl, hh1, ?_, ?_, ?_⟩
      · show (s.2 ++ [x]).Pairwise (· < ·)
        rw [List.pairwise_append]
        exact ⟨hp1, List.pairwise_singleton .., fun a ha b hb => by rw [List.mem_singleton] at hb; subst hb; have := hp2 a ha; omega⟩
      · intro y hy
        rcases List.mem_append.mp hy with hy | hy
        · have := hp2 y hy; omega
        · rw [List.mem_singleton] at hy; omega
      · show (s.2 ++ [x]).length ≤ _; rw [List.length_append, hl3]; show s.2.length + 1 ≤ _; omega
    · rw [if_neg (by simpa using c)]; simp only [Option.bind_some]
      exact ⟨_, rfl, hh1, hp1, fun y hy => by have := hp2 y hy; omega, by show s.2.length ≤ _; omega⟩)
  rw [he]; simp only [Option.bind_some]
  refine ⟨_, _, rfl, ⟨p2, fun x hx => ?_⟩, p1⟩
  have := p3 x hx
  rw [rng_length] at this; omega
theorem sea_ok {h : List Int} (hh : Hd h) {n : Int} (n0 : 1 ≤ n) (n1 : n ≤ 12) : ∃ s h', m_l_sea h n = some (s, h') ∧ SeaOk s ∧ Hd h' ∧ (s.1.length : Int) ≤ n ∧ s.2.2.1.length ≤ 3 ∧ ∃ r, s.2.2.1 = 0 :: r := by
  simp only [m_l_sea, pyLet]
  obtain ⟨a, h1, e1, a0, a1, hh1⟩ := pick_ok hh (n := n) n0 (by omega)
  rw [e1]; simp only [Option.bind_some]
  obtain ⟨b, h2, e2, b0, b1, hh2⟩ := pick_ok hh1 (n := 3) (by decide) (by decide)
  rw [e2]; simp only [Option.bind_some]
  obtain ⟨sp, e3, m3⟩ := at_mem (xs := [(2 : Int), (6 : Int), (100 : Int)]) b0 b1
  rw [e3]; simp only [Option.bind_some]
  have sp1 : 1 ≤ sp ∧ sp ≤ 100 := by simp at m3; omega
  obtain ⟨c, h3, e4, c0, c1, hh3⟩ := pick_ok hh2 (n := 3) (by decide) (by decide)
  rw [e4]; simp only [Option.bind_some]
  obtain ⟨sw, e5, m5⟩ := at_mem (xs := [(1 : Int), (4 : Int), (21 : Int)]) c0 c1
  rw [e5]; simp only [Option.bind_some]
  have sw1 : 1 ≤ sw ∧ sw ≤ 21 := by simp at m5; omega
  rw [rngO_ok (by decide) (by decide) (by omega) (by omega)]; simp only [Option.bind_some]
  obtain ⟨q, eq, q1, q2, q3, q4, q5, q6⟩ := forN_ind (f := m_l_sea_b1 sp) (xs := rng 0 (1 + a)) (s0 := (h3, ([] : List Int), ([] : List (Int × Int)))) (fun pre s => Hd s.1 ∧ s.2.1.length = pre.length ∧ (∀ x ∈ s.2.1, 0 ≤ x ∧ x ≤ 99) ∧ (∀ p ∈ s.2.2, 0 ≤ p.1 ∧ p.1 < p.2 ∧ p.2 < (pre.length : Int)) ∧ s.2.2.Nodup ∧ 2 * s.2.2.length + pre.length ≤ pre.length * pre.length) ⟨hh3, rfl, (fun x hx => nomatch hx), (fun x hx => nomatch hx), .nil, Nat.le_refl _⟩ (fun pre x suf s e hp => by
    obtain ⟨p1, p2, p3, p4, p5, p6⟩ := hp
    obtain ⟨g1, g2, _, g4⟩ := rng_mid e
    have hl2 : ((pre ++ [x]).length : Int) = (pre.length : Int) + 1 := by rw [List.length_append]; rfl
    have hl3 : (pre ++ [x]).length = pre.length + 1 := by rw [List.length_append]; rfl
    have pl : pre.length ≤ 12 := by omega
    have pm : pre.length * pre.length ≤ 12 * 12 := Nat.mul_le_mul pl pl
    simp only [m_l_sea_b1]
    obtain ⟨d, h4, e6, d0, d1, hh4⟩ := pick_ok p1 (n := sp) (by omega) (by omega)
    rw [e6]; simp only [Option.bind_some]
    rw [app_ok (xs := s.2.1) (lt_big (by omega))]; simp only [Option.bind_some]
    rw [rngO_ok (by decide) (by decide) (by omega) (by omega)]; simp only [Option.bind_some]
    obtain ⟨u, eu, u1, u2, u3, u4⟩ := forN_ind (f := m_l_sea_b2 x) (xs := rng 0 x) (s0 := (h4, s.2.2)) (fun pr t => Hd t.1 ∧ (∀ p ∈ t.2, p ∈ s.2.2 ∨ (p.2 = x ∧ 0 ≤ p.1 ∧ p.1 < (pr.length : Int))) ∧ t.2.Nodup ∧ t.2.length ≤ s.2.2.length + pr.length) ⟨hh4, fun p hp => .inl hp, p5, Nat.le_refl _⟩ (fun pr y sf t e' hp' => by
      obtain ⟨t1, t2, t3, t4⟩ := hp'
      obtain ⟨k1, _, _, k4⟩ := rng_mid e'
      have kl2 : ((pr ++ [y]).length : Int) = (pr.length : Int) + 1 := by rw [List.length_append]; rfl
      have kl3 : (pr ++ [y]).length = pr.length + 1 := by rw [List.length_append]; rfl
      simp only [m_l_sea_b2]
      obtain ⟨z, h5, e7, z0, z1, hh5⟩ := pick_ok t1 (n := 4) (by decide) (by decide)
      rw [e7]; simp only [Option.bind_some]
      by_cases cz : 0 < z
      · rw [if_pos (decide_eq_true cz), app_ok (xs := t.2) (lt_big (by omega))]; simp only [Option.bind_some]
        refine ⟨_, rfl, hh5, ?_, ?_, ?_⟩
        · intro p hp
          rcases List.mem_append.mp hp with hp | hp
          · rcases t2 p hp with h | h
            · exact .inl h
            · exact .inr ⟨h.1, h.2.1, by omega⟩
          · rw [List.mem_singleton] at hp; subst hp; exact .inr ⟨rfl, by show 0 ≤ y; omega, by show y < _; omega⟩
        · show (t.2 ++ [(y, x)]).Nodup
          rw [List.nodup_append]
          refine ⟨t3, List.nodup_cons.mpr ⟨List.not_mem_nil, .nil⟩, fun p hp p' hp' => ?_⟩
          rw [List.mem_singleton] at hp'; subst hp'
          intro he; subst he
          rcases t2 _ hp with h | h
          · have := p4 _ h; simp only at this; omega
          · have := h.2.2; simp only at this; omega
        · show (t.2 ++ [(y, x)]).length ≤ _; rw [List.length_append, kl3]; show t.2.length + 1 ≤ _; omega
      · rw [if_neg (by simpa using cz)]; simp only [Option.bind_some]
        exact ⟨_, rfl, hh5, fun p hp => by
          rcases t2 p hp with h | h
          · exact .inl h
          · exact .inr ⟨h.1, h.2.1, by omega⟩, t3, by show t.2.length ≤ _; omega⟩)
    rw [eu]; simp only [Option.bind_some]
    rw [rng_length] at u2 u4
    refine ⟨_, rfl, u1, ?_, ?_, ?_, u3, ?_⟩
    · show (s.2.1 ++ [d]).length = _; rw [List.length_append, hl3, p2]; rfl
    · intro y hy
      rcases List.mem_append.mp hy with hy | hy
      · exact p3 y hy
      · rw [List.mem_singleton] at hy; subst hy; omega
    · intro p hp
      rcases u2 p hp with h | h
      · have := p4 p h; omega
      · omega
    · show 2 * u.2.length + _ ≤ _
      have hx : (x - 0).toNat = pre.length := by omega
      rw [hl3, Nat.add_mul, Nat.mul_add]
      omega)
  rw [eq]; simp only [Option.bind_some]
  rw [rng_length] at q2 q4 q6
  have hn : (1 + a - 0).toNat = (1 + a).toNat := by omega
  obtain ⟨d, h4, e6, d0, d1, hh4⟩ := pick_ok q1 (n := 3) (by decide) (by decide)
  rw [e6]; simp only [Option.bind_some]
  rw [rngO_ok (by decide) (by decide) (by omega) (by omega)]; simp only [Option.bind_some]
  obtain ⟨u, eu, u1, u2, u3, u4⟩ := forN_ind (f := m_l_sea_b3 sw) (xs := rng 0 d) (s0 := (h4, [(0 : Int)])) (fun pr t => Hd t.1 ∧ (∀ y ∈ t.2, 0 ≤ y ∧ y ≤ 20) ∧ t.2.length = 1 + pr.length ∧ ∃ r, t.2 = 0 :: r) ⟨hh4, (fun y hy => by rw [List.mem_singleton] at hy; omega), rfl, [], rfl⟩ (fun pr y sf t e' hp' => by
    obtain ⟨t1, t2, t3, r, t4⟩ := hp'
    obtain ⟨k1, _, _, k4⟩ := rng_mid e'
    simp only [m_l_sea_b3]
    obtain ⟨z, h5, e7, z0, z1, hh5⟩ := pick_ok t1 (n := sw) (by omega) (by omega)
    rw [e7]; simp only [Option.bind_some]
    rw [app_ok (xs := t.2) (lt_big (by omega))]; simp only [Option.bind_some]
    refine ⟨_, rfl, hh5, ?_, ?_, r ++ [z], ?_⟩
    · intro p hp
      rcases List.mem_append.mp hp with hp | hp
      · exact t2 p hp
      · rw [List.mem_singleton] at hp; omega
    · show (t.2 ++ [z]).length = _; rw [List.length_append, List.length_append, t3]; rfl
    · show t.2 ++ [z] = _; rw [t4]; rfl)
  rw [eu]; simp only [Option.bind_some]
  rw [rng_length] at u3
  obtain ⟨z, h5, e8, hz, hh5⟩ := some_ok u1 (n := 1 + a) (c := 4) (by omega) (by omega) (by decide) (by decide)
  rw [e8]; simp only [Option.bind_some]
  have ql : (q.2.1.length : Int) = 1 + a := by omega
  refine ⟨_, _, rfl, ⟨⟨?_, ?_, q3⟩, ⟨?_, q5, ?_⟩, ⟨?_, ?_, u2⟩, ?_⟩, hh5, ?_, ?_, u4⟩
  · show 1 ≤ q.2.1.length; omega
  · show q.2.1.length ≤ 12; omega
  · intro p hp
    have := q4 p hp
    show _ ∧ _ ∧ p.2 < (q.2.1.length : Int); omega
  · show q.2.2.length ≤ 66
    have hm : (1 + a - 0).toNat * (1 + a - 0).toNat ≤ 12 * (1 + a - 0).toNat := Nat.mul_le_mul_right _ (by omega)
    omega
  · show 1 ≤ u.2.length; omega
  · show u.2.length ≤ 12; omega
  · show PortOk (q.2.1.length : Int) z; rw [ql]; exact hz
  · show (q.2.1.length : Int) ≤ n; omega
  · show u.2.length ≤ 3; omega

/-! ### a chart -/
def nrm (p : Int × Int) : Int × Int := (min p.1 p.2, max p.1 p.2)
/-- lanes in any direction -/
def LanesG (n : Int) (ls : List (Int × Int)) : Prop := (∀ p ∈ ls, 0 ≤ (nrm p).1 ∧ (nrm p).1 < (nrm p).2 ∧ (nrm p).2 < n) ∧ (ls.map nrm).Nodup ∧ ls.length ≤ 66
def HarbG (n : Int) (t : List Int) : Prop := t.Nodup ∧ (∀ x ∈ t, 0 ≤ x ∧ x < n) ∧ t.length ≤ 12
theorem nrm_up {p : Int × Int} (h : p.1 < p.2) : nrm p = p := Prod.ext (by show min p.1 p.2 = p.1; omega) (by show max p.1 p.2 = p.2; omega)
theorem map_nrm {ls : List (Int × Int)} (h : ∀ p ∈ ls, p.1 < p.2) : ls.map nrm = ls := by
  induction ls with
  | nil => rfl
  | cons p ls ih => rw [List.map_cons, nrm_up (h p (List.mem_cons_self ..)), ih fun q hq => h q (List.mem_cons_of_mem _ hq)]
theorem LanesU.g {n : Int} {ls : List (Int × Int)} (h : LanesU n ls) : LanesG n ls := by
  have e := map_nrm fun p hp => (h.1 p hp).2.1
  exact ⟨fun p hp => by rw [nrm_up (h.1 p hp).2.1]; exact h.1 p hp, by rw [e]; exact h.2.1, h.2.2⟩
theorem PortOk.g {n : Nat} {t : List Int} (h : PortOk n t) (hn : n ≤ 12) : HarbG n t := ⟨lt_nodup h.1, h.2, Nat.le_trans (lt_len h.1 h.2) hn⟩

theorem numbers_ok_0 {xs : List Int} {m g : Int} (h1 : 1 ≤ xs.length) (h2 : (xs.length : Int) ≤ m) (h : ∀ x ∈ xs, 0 ≤ x ∧ x ≤ g) : m_good_numbers xs m g = some true := by
  simp only [m_good_numbers]
  refine iff' (by simp; omega) ?_
  refine bd (forR_all fun x hx => ?_) rfl
  have := h x hx
  simp only [m_good_numbers_b1]
  exact iff' (by simp; omega) rfl
theorem depths_ok_0 {xs : List Int} (h : DeepOk xs) : m_good_depths xs = some true := by
  simp only [m_good_depths]
  exact bd (numbers_ok_0 h.1 (by have := h.2.1; omega) h.2.2) rfl
theorem tide_ok_0 {xs : List Int} (h : TideOk xs) : m_good_tide xs = some true := by
  simp only [m_good_tide]
  exact bd (numbers_ok_0 h.1 (by have := h.2.1; omega) h.2.2) rfl
theorem harb_ok_0 {xs : List Int} {n : Int} (h : HarbG n xs) : m_good_harbours xs n = some true := by
  simp only [m_good_harbours, m_is_zone_0]
  refine bd (bd (forR_thru (fun pre => pre) rfl fun pre x suf e => ?_) rfl) rfl
  have hx := h.2.1 x (mem_mid e)
  have hl : pre.length ≤ 12 := by have := congrArg List.length e; rw [List.length_append] at this; have := h.2.2; omega
  have hc := contains_false (nodup_mid e h.1)
  simp only [m_is_zone_0_b1]
  refine iff' (by rw [hc]; simp; omega) ?_
  refine bd (show sadd pre x = some (pre ++ [x]) from ?_) rfl
  unfold sadd
  rw [if_pos (by omega), hc]; rfl
theorem lanes_ok_0 {ls : List (Int × Int)} {n : Int} (h : LanesG n ls) : m_good_lanes ls n = some true := by
  simp only [m_good_lanes]
  refine bd (forR_thru (fun pre => pre.map nrm) rfl fun pre x suf e => ?_) rfl
  have hx := h.1 x (mem_mid e)
  have hl : pre.length ≤ 66 := by have := congrArg List.length e; rw [List.length_append] at this; have := h.2.2; omega
  have hc : (pre.map nrm).contains (nrm x) = false := contains_false (nodup_mid (xs := ls.map nrm) (suf := suf.map nrm) (by rw [e, List.map_append, List.map_cons]) h.2.1)
  simp only [m_good_lanes_b1, pyLet]
  have c1 : ¬ (min x.1 x.2 : Int) < 0 := by have := hx.1; unfold nrm at this; simp only at this; omega
  have c2 : ¬ n ≤ (max x.1 x.2 : Int) := by have := hx.2.2; unfold nrm at this; simp only at this; omega
  have c3 : ¬ (min x.1 x.2 : Int) = (max x.1 x.2 : Int) := by have := hx.2.1; unfold nrm at this; simp only at this; omega
  refine bd (iff' (decide_eq_false c1) (iff' (decide_eq_false c2) (iff' (decide_eq_false c3) (congrArg some hc)))) ?_
  refine iff' rfl ?_
  refine bd (show saddP (pre.map nrm) (nrm x) = some (pre.map nrm ++ [nrm x]) from ?_) (by rw [List.map_append]; rfl)
  unfold saddP
  rw [if_pos (by rw [List.length_map]; omega), hc]; rfl
theorem ordered_ok_0 {ls : List (Int × Int)} (h : ls.length ≤ 66) : m_ordered_lanes ls = some (sortP (ls.map nrm)) := by
  simp only [m_ordered_lanes]
  refine bd (forN_thru (fun pre => pre.map nrm) rfl fun pre x suf e => ?_) rfl
  have hl : pre.length ≤ 66 := by have := congrArg List.length e; rw [List.length_append] at this; omega
  simp only [m_ordered_lanes_b1]
  refine bd (app_ok (xs := pre.map nrm) (lt_big (by rw [List.length_map]; omega))) (by rw [List.map_append]; rfl)

/-- the neighbours of a place, in the order of the lanes -/
def nbOf (ls : List (Int × Int)) (p : Int) : List Int := ls.flatMap fun q => if q.1 = p then [q.2] else if q.2 = p then [q.1] else []
theorem nbOf_le (ls : List (Int × Int)) (p : Int) : (nbOf ls p).length ≤ ls.length := flat_le (fun q => by by_cases h1 : q.1 = p <;> by_cases h2 : q.2 = p <;> simp [h1, h2]) ls
def rowsOf (n : Nat) (ls : List (Int × Int)) : List (List Int) := (List.range n).map fun (k : Nat) => nbOf ls (k : Int)
theorem nbOf_app (ls : List (Int × Int)) (q : Int × Int) (p : Int) : nbOf (ls ++ [q]) p = nbOf ls p ++ (if q.1 = p then [q.2] else if q.2 = p then [q.1] else []) := by
  unfold nbOf
  rw [List.flatMap_append, List.flatMap_cons, List.flatMap_nil, List.append_nil]
theorem rowsOf_at {n : Nat} {ls : List (Int × Int)} {k : Nat} (h : k < n) : (rowsOf n ls)[k]? = some (nbOf ls (k : Int)) := by
  unfold rowsOf
  rw [List.getElem?_map, List.getElem?_range h]; rfl
theorem rowsOf_len (n : Nat) (ls : List (Int × Int)) : (rowsOf n ls).length = n := by unfold rowsOf; rw [List.length_map, List.length_range]
theorem appIn_ok {α : Type} {xs : List (List α)} {i : Int} {x : α} {row : List α} (h0 : 0 ≤ i) (hr : xs[i.toNat]? = some row) (hl : row.length ≤ 100000) : appIn xs i x = some (xs.set i.toNat (row ++ [x])) := by
  have hj : i.toNat < xs.length := (List.getElem?_eq_some_iff.mp hr).1
  unfold appIn ixN
  rw [if_pos h0, if_pos (by omega), Option.bind_some, hr, Option.bind_some, app_ok (lt_big hl)]; rfl
theorem joined_ok {n : Nat} {ls : List (Int × Int)} (hn : n ≤ 100) (hl : ls.length ≤ 66) (h : ∀ p ∈ ls, 0 ≤ p.1 ∧ p.1 < p.2 ∧ p.2 < n) : m_joined_places (n : Int) ls = some (rowsOf n ls) := by
  simp only [m_joined_places]
  rw [rngO_ok (by decide) (by decide) (by omega) (by omega)]; simp only [Option.bind_some]
  rw [forN_thru (f := m_joined_places_b1) (s0 := ([] : List (List Int))) (fun pre => (pre.map fun _ => ([] : List Int))) rfl (fun pre x suf e => by
    have hl2 : pre.length ≤ 100 := by have := congrArg List.length e; rw [List.length_append, rng_length] at this; omega
    simp only [m_joined_places_b1]
    exact bd (app_ok (xs := pre.map fun _ => ([] : List Int)) (lt_big (by rw [List.length_map]; omega))) (by rw [List.map_append]; rfl))]
  simp only [Option.bind_some]
  have e0 : (rng 0 (n : Int)).map (fun _ => ([] : List Int)) = rowsOf n [] := by
    unfold rowsOf rng
    rw [List.map_map]
    have : ((n : Int) - 0).toNat = n := by omega
    rw [this]; rfl
  rw [e0]
  rw [forN_thru (f := m_joined_places_b2) (rowsOf n) rfl (fun pre x suf e => by
    obtain ⟨h1, h2, h3⟩ := h x (mem_mid e)
    have hp : pre.length ≤ 66 := by have := congrArg List.length e; rw [List.length_append] at this; omega
    have k1 : x.1.toNat < n := by omega
    have k2 : x.2.toNat < n := by omega
    have i1 : ((x.1.toNat : Nat) : Int) = x.1 := by omega
    have i2 : ((x.2.toNat : Nat) : Int) = x.2 := by omega
    have r1 := rowsOf_at (ls := pre) k1
    have r2 := rowsOf_at (ls := pre) k2
    rw [i1] at r1; rw [i2] at r2
    simp only [m_joined_places_b2]
    refine bd (at_int h1 r1) ?_
    refine bd (appIn_ok h1 r1 (Nat.le_trans (nbOf_le _ _) (by omega))) ?_
    have r3 : ((rowsOf n pre).set x.1.toNat (nbOf pre x.1 ++ [x.2]))[x.2.toNat]? = some (nbOf pre x.2) := by
      rw [List.getElem?_set_ne (by omega)]; exact r2
    refine bd (at_int (by omega) r3) ?_
    refine bd (appIn_ok (by omega) r3 (Nat.le_trans (nbOf_le _ _) (by omega))) ?_
    congr 1
    apply List.ext_getElem?
    intro k
    by_cases hk : k < n
    · rw [rowsOf_at hk, nbOf_app]
      by_cases c2 : x.2.toNat = k
      · subst c2
        rw [List.getElem?_set_self (by rw [List.length_set, rowsOf_len]; exact hk), i2, if_neg (by omega), if_pos rfl]
      · rw [List.getElem?_set_ne c2]
        by_cases c1 : x.1.toNat = k
        · subst c1
          rw [List.getElem?_set_self (by rw [rowsOf_len]; exact hk), i1, if_pos rfl]
        · rw [List.getElem?_set_ne c1, rowsOf_at hk, if_neg (by omega), if_neg (by omega), List.append_nil]
    · rw [List.getElem?_eq_none (by rw [List.length_set, List.length_set, rowsOf_len]; omega), List.getElem?_eq_none (by rw [rowsOf_len]; omega)])]
  simp only [Option.bind_some]
  rw [forN_thru (f := m_joined_places_b3) (s0 := ([] : List (List Int))) (fun pre => pre) rfl (fun pre x suf e => by
    have hl2 : pre.length ≤ 100 := by have := congrArg List.length e; rw [List.length_append, rowsOf_len] at this; omega
    simp only [m_joined_places_b3]
    exact bd (app_ok (xs := pre) (lt_big (by omega))) rfl)]
  simp only [Option.bind_some]
theorem sortP_mem {xs : List (Int × Int)} {p : Int × Int} : p ∈ sortP xs ↔ p ∈ xs := (List.mergeSort_perm xs leP).mem_iff
theorem sortP_len {xs : List (Int × Int)} : (sortP xs).length = xs.length := (List.mergeSort_perm xs leP).length_eq
abbrev ChT := Int × List Int × List (Int × Int) × List Int × List Int × List (List Int)
/-- what a chart holds -/
def chOf (d : List Int) (ls : List (Int × Int)) (t hs : List Int) : ChT := ((d.length : Int), d, sortP (ls.map nrm), t, sortI hs, rowsOf d.length (sortP (ls.map nrm)))
theorem joined_of {n : Nat} {ls : List (Int × Int)} (hn : n ≤ 12) (h : LanesG n ls) : m_joined_places (n : Int) (sortP (ls.map nrm)) = some (rowsOf n (sortP (ls.map nrm))) :=
  joined_ok (by omega) (by rw [sortP_len, List.length_map]; exact h.2.2) (fun p hp => by
    rw [sortP_mem, List.mem_map] at hp
    obtain ⟨q, hq, rfl⟩ := hp
    exact h.1 q hq)

/-! ### lists that ascend -/
theorem asc_ext {α : Type} {r : α → α → Prop} (asy : ∀ a b, r a b → r b a → False) : ∀ {xs ys : List α}, xs.Pairwise r → ys.Pairwise r → (∀ a, a ∈ xs ↔ a ∈ ys) → xs = ys
  | [], [], _, _, _ => rfl
  | [], y :: ys, _, _, h => absurd ((h y).mpr (List.mem_cons_self ..)) List.not_mem_nil
  | x :: xs, [], _, _, h => absurd ((h x).mp (List.mem_cons_self ..)) List.not_mem_nil
  | x :: xs, y :: ys, h1, h2, h => by
    have p1 := List.pairwise_cons.mp h1
    have p2 := List.pairwise_cons.mp h2
    have e : x = y := by
      rcases List.mem_cons.mp ((h x).mp (List.mem_cons_self ..)) with e | e
      · exact e
      · rcases List.mem_cons.mp ((h y).mpr (List.mem_cons_self ..)) with e2 | e2
        · exact e2.symm
        · exact (asy _ _ (p1.1 y e2) (p2.1 x e)).elim
    subst e
    rw [asc_ext asy p1.2 p2.2 fun a => ?_]
    constructor
    · intro ha
      rcases List.mem_cons.mp ((h a).mp (List.mem_cons_of_mem _ ha)) with e | e
      · subst e; exact (asy _ _ (p1.1 a ha) (p1.1 a ha)).elim
      · exact e
    · intro ha
      rcases List.mem_cons.mp ((h a).mpr (List.mem_cons_of_mem _ ha)) with e | e
      · subst e; exact (asy _ _ (p2.1 a ha) (p2.1 a ha)).elim
      · exact e
theorem asc_extI {xs ys : List Int} (h1 : xs.Pairwise (· < ·)) (h2 : ys.Pairwise (· < ·)) (h : ∀ a, a ∈ xs ↔ a ∈ ys) : xs = ys := asc_ext (fun a b h h' => by omega) h1 h2 h
def ltP (a b : Int × Int) : Prop := a.1 < b.1 ∨ (a.1 = b.1 ∧ a.2 < b.2)
theorem asc_extP {xs ys : List (Int × Int)} (h1 : xs.Pairwise ltP) (h2 : ys.Pairwise ltP) (h : ∀ a, a ∈ xs ↔ a ∈ ys) : xs = ys := asc_ext (fun a b h h' => by unfold ltP at *; omega) h1 h2 h
theorem pw_flat {α β : Type} {r : β → β → Prop} {f : α → List β} : ∀ {xs : List α}, (∀ a ∈ xs, (f a).Pairwise r) → xs.Pairwise (fun a b => ∀ x ∈ f a, ∀ y ∈ f b, r x y) → (xs.flatMap f).Pairwise r
  | [], _, _ => .nil
  | a :: xs, h1, h2 => by
    have pc := List.pairwise_cons.mp h2
    rw [List.flatMap_cons, List.pairwise_append]
    refine ⟨h1 a (List.mem_cons_self ..), pw_flat (fun b hb => h1 b (List.mem_cons_of_mem _ hb)) pc.2, fun x hx y hy => ?_⟩
    obtain ⟨b, hb, hyb⟩ := List.mem_flatMap.mp hy
    exact pc.1 b hb x hx y hyb
theorem pw_imp {α : Type} {r q : α → α → Prop} : ∀ {xs : List α}, xs.Pairwise r → (∀ a ∈ xs, ∀ b ∈ xs, r a b → q a b) → xs.Pairwise q
  | [], _, _ => .nil
  | x :: xs, h, k => by
    have pc := List.pairwise_cons.mp h
    exact List.pairwise_cons.mpr ⟨fun y hy => k x (List.mem_cons_self ..) y (List.mem_cons_of_mem _ hy) (pc.1 y hy), pw_imp pc.2 fun a ha b hb => k a (List.mem_cons_of_mem _ ha) b (List.mem_cons_of_mem _ hb)⟩
theorem pw_and {α : Type} {r q : α → α → Prop} : ∀ {xs : List α}, xs.Pairwise r → xs.Pairwise q → xs.Pairwise (fun a b => r a b ∧ q a b)
  | [], _, _ => .nil
  | x :: xs, h, k => by
    have p1 := List.pairwise_cons.mp h
    have p2 := List.pairwise_cons.mp k
    exact List.pairwise_cons.mpr ⟨fun y hy => ⟨p1.1 y hy, p2.1 y hy⟩, pw_and p1.2 p2.2⟩
theorem leP_mi {a b : Int × Int} : leP a b = true ↔ (a.1 < b.1 ∨ (a.1 = b.1 ∧ a.2 ≤ b.2)) := by unfold leP; exact decide_eq_true_iff
theorem sortP_lt {xs : List (Int × Int)} (h : xs.Nodup) : (sortP xs).Pairwise ltP := by
  have h1 : (sortP xs).Pairwise (fun a b => leP a b = true) := List.pairwise_mergeSort (le := leP) (fun a b c h1 h2 => by rw [leP_mi] at *; omega) (fun a b => by rw [Bool.or_eq_true, leP_mi, leP_mi]; omega) xs
  have h2 : (sortP xs).Nodup := (List.mergeSort_perm xs leP).nodup_iff.mpr h
  exact List.Pairwise.imp (fun {a b} z => by
    have z1 := leP_mi.mp z.1
    have z2 : a ≠ b := z.2
    unfold ltP
    by_cases e : a.1 = b.1
    · by_cases e2 : a.2 = b.2
      · exact absurd (Prod.ext e e2) z2
      · omega
    · omega) (pw_and h1 h2)
theorem nb_mem {ls : List (Int × Int)} (hl : ∀ p ∈ ls, p.1 < p.2) {p q : Int} : q ∈ nbOf ls p ↔ ((p, q) ∈ ls ∨ (q, p) ∈ ls) := by
  unfold nbOf
  rw [List.mem_flatMap]
  constructor
  · rintro ⟨l, h1, h2⟩
    by_cases c1 : l.1 = p
    · rw [if_pos c1, List.mem_singleton] at h2
      exact .inl (by rw [show (p, q) = l from Prod.ext c1.symm h2]; exact h1)
    · rw [if_neg c1] at h2
      by_cases c2 : l.2 = p
      · rw [if_pos c2, List.mem_singleton] at h2
        exact .inr (by rw [show (q, p) = l from Prod.ext h2 c2.symm]; exact h1)
      · rw [if_neg c2] at h2; exact absurd h2 List.not_mem_nil
  · rintro (h | h)
    · exact ⟨_, h, by rw [if_pos rfl]; exact List.mem_singleton.mpr rfl⟩
    · have := hl _ h
      exact ⟨_, h, by rw [if_neg (by show ¬ q = p; simp only at this; omega), if_pos rfl]; exact List.mem_singleton.mpr rfl⟩
theorem nb_asc {ls : List (Int × Int)} (hl : ∀ p ∈ ls, p.1 < p.2) (hs : ls.Pairwise ltP) (p : Int) : (nbOf ls p).Pairwise (· < ·) := by
  unfold nbOf
  refine pw_flat (fun a _ => ?_) (pw_imp hs fun a ha b hb hab x hx y hy => ?_)
  · by_cases c1 : a.1 = p
    · rw [if_pos c1]; exact List.pairwise_singleton ..
    · rw [if_neg c1]
      by_cases c2 : a.2 = p
      · rw [if_pos c2]; exact List.pairwise_singleton ..
      · rw [if_neg c2]; exact .nil
  · have a1 := hl a ha
    have b1 := hl b hb
    unfold ltP at hab
    by_cases c1 : a.1 = p <;> by_cases c2 : a.2 = p <;> by_cases c3 : b.1 = p <;> by_cases c4 : b.2 = p <;> simp [c1, c2, c3, c4] at hx hy <;> omega
theorem LanesG.map {n : Int} {ls : List (Int × Int)} (h : LanesG n ls) : ∀ p ∈ ls.map nrm, 0 ≤ p.1 ∧ p.1 < p.2 ∧ p.2 < n := fun p hp => by
  obtain ⟨q, hq, rfl⟩ := List.mem_map.mp hp
  exact h.1 q hq
/-- the neighbours that a chart tells -/
theorem nb_spec {n : Int} {ls : List (Int × Int)} (h : LanesG n ls) (p : Int) : (nbOf (sortP (ls.map nrm)) p).Pairwise (· < ·) ∧ ∀ q, q ∈ nbOf (sortP (ls.map nrm)) p ↔ ((p, q) ∈ ls.map nrm ∨ (q, p) ∈ ls.map nrm) := by
  have hl : ∀ p ∈ sortP (ls.map nrm), p.1 < p.2 := fun p hp => (h.map p (sortP_mem.mp hp)).2.1
  exact ⟨nb_asc hl (sortP_lt h.2.1) p, fun q => by rw [nb_mem hl, sortP_mem, sortP_mem]⟩
theorem sub_lanes {n : Int} {ls ks : List (Int × Int)} (h : LanesU n ls) (s : ks.Sublist ls) : LanesU n ks := ⟨fun p hp => h.1 p (s.subset hp), s.nodup h.2.1, Nat.le_trans s.length_le h.2.2⟩
theorem filt_mem {f : Int → Bool} {n x : Int} : x ∈ (rng 0 n).flatMap (fun x => if f x = true then [x] else []) ↔ (0 ≤ x ∧ x < n) ∧ f x = true := by
  rw [List.mem_flatMap]
  constructor
  · rintro ⟨y, h1, h2⟩
    by_cases c : f y = true
    · rw [if_pos c, List.mem_singleton] at h2; subst h2; exact ⟨mem_rng.mp h1, c⟩
    · rw [if_neg c] at h2; exact absurd h2 List.not_mem_nil
  · rintro ⟨h1, h2⟩
    exact ⟨x, mem_rng.mpr h1, by rw [if_pos h2]; exact List.mem_singleton.mpr rfl⟩
theorem filt_lt (f : Int → Bool) (n : Int) : ((rng 0 n).flatMap (fun x => if f x = true then [x] else [])).Pairwise (· < ·) :=
  (pairwise_flat (r := (· < ·)) (h := fun x : Int => if f x = true then [x] else []) (fun x => by by_cases h : f x = true <;> simp [h]) (rng_lt 0 n)).1
theorem sortI_mem {xs : List Int} {a : Int} : a ∈ sortI xs ↔ a ∈ xs := (List.mergeSort_perm xs _).mem_iff
theorem sortI_lt {xs : List Int} (h : xs.Nodup) : (sortI xs).Pairwise (· < ·) := by
  have h1 : (sortI xs).Pairwise (fun a b => decide (a ≤ b) = true) := List.pairwise_mergeSort (le := fun a b : Int => decide (a ≤ b)) (fun a b c h1 h2 => by simp at *; omega) (fun a b => by simp; omega) xs
  have h2 : (sortI xs).Nodup := (List.mergeSort_perm xs _).nodup_iff.mpr h
  exact List.Pairwise.imp (fun {a b} z => by
    have z1 := of_decide_eq_true z.1
    have z2 : a ≠ b := z.2
    omega) (pw_and h1 h2)

def gB (xs : List Bool) (p : Int) : Bool := xs[p.toNat]?.getD false
def gO (xs : List (Option Int)) (p : Int) : Option Int := xs[p.toNat]?.getD none
theorem gB_at {xs : List Bool} {p : Int} (h0 : 0 ≤ p) (h1 : p < xs.length) : at_ xs p = some (gB xs p) := at_get h0 h1
theorem gO_at {xs : List (Option Int)} {p : Int} (h0 : 0 ≤ p) (h1 : p < xs.length) : at_ xs p = some (gO xs p) := at_get h0 h1
theorem forR_any {α : Type} {f : Unit → α → Option (Bool ⊕ Unit)} (g : α → Bool) : ∀ {xs : List α}, (∀ x ∈ xs, f () x = some (if g x = true then .inl true else .inr ())) → forR f () xs = some (if xs.any g = true then .inl true else .inr ())
  | [], _ => rfl
  | x :: xs, h => by
    have hx := h x (List.mem_cons_self ..)
    by_cases c : g x = true
    · rw [if_pos c] at hx
      rw [List.any_cons, c, Bool.true_or, if_pos rfl]
      show (f () x).bind _ = _
      rw [hx]; rfl
    · rw [if_neg c] at hx
      rw [forR_step hx, List.any_cons, show g x = false from bf c, Bool.false_or]
      exact forR_any g fun y hy => h y (List.mem_cons_of_mem _ hy)
theorem forN_par {α σ : Type} {f g : σ → α → Option σ} (P : σ → Prop) : ∀ {xs : List α} {s : σ}, P s → (∀ s x, x ∈ xs → P s → ∃ s', f s x = some s' ∧ g s x = some s' ∧ P s') → ∃ e, forN f s xs = some e ∧ forN g s xs = some e ∧ P e
  | [], s, h0, _ => ⟨s, rfl, rfl, h0⟩
  | x :: xs, s, h0, h => by
    obtain ⟨s', e1, e2, p⟩ := h s x (List.mem_cons_self ..) h0
    obtain ⟨e, h1, h2, h3⟩ := forN_par (f := f) (g := g) P (xs := xs) p fun s y hy => h s y (List.mem_cons_of_mem _ hy)
    exact ⟨e, by rw [forN_cons, e1]; exact h1, by rw [forN_cons, e2]; exact h2, h3⟩

/-! ### lanes of a sea's chart (the head of P_ring, alone) -/
theorem sortI_len (xs : List Int) : (sortI xs).length = xs.length := (List.mergeSort_perm xs _).length_eq
theorem nd_len {xs : List Int} {n : Nat} (h : xs.Nodup) (hb : ∀ x ∈ xs, 0 ≤ x ∧ x < (n : Int)) : xs.length ≤ n := by
  rw [← sortI_len]
  exact lt_len (sortI_lt h) fun x hx => hb x (sortI_mem.mp hx)
section
variable {s : SeaT} (hs : SeaOk s)
include hs
theorem nb_rng {p q : Int} (h : q ∈ nbOf (sortP (s.2.1.map nrm)) p) : 0 ≤ q ∧ q < s.1.length := by
  rcases ((nb_spec hs.2.1.g p).2 q).mp h with h | h
  · have := hs.2.1.g.map _ h; simp only at this; omega
  · have := hs.2.1.g.map _ h; simp only at this; omega
theorem nb_sym {p q : Int} (h : q ∈ nbOf (sortP (s.2.1.map nrm)) p) : p ∈ nbOf (sortP (s.2.1.map nrm)) q := by
  rcases ((nb_spec hs.2.1.g p).2 q).mp h with h | h
  · exact ((nb_spec hs.2.1.g q).2 p).mpr (.inr h)
  · exact ((nb_spec hs.2.1.g q).2 p).mpr (.inl h)
theorem nb_is {p : Int} (h0 : 0 ≤ p) (h1 : p < s.1.length) : m_Chart_neighbours (chOf s.1 s.2.1 s.2.2.1 s.2.2.2) p = some (nbOf (sortP (s.2.1.map nrm)) p) := by
  unfold m_Chart_neighbours
  refine bd (at_int h0 ?_) rfl
  show (rowsOf s.1.length (sortP (s.2.1.map nrm)))[p.toNat]? = _
  rw [rowsOf_at (by omega), Int.toNat_of_nonneg h0]
end

/-! ### rows as functions -/
def rowOf (n : Nat) (φ : Int → Option Int) : List (Option Int) := (rng 0 (n : Int)).map φ
theorem rowOf_len (n : Nat) (φ : Int → Option Int) : (rowOf n φ).length = n := by unfold rowOf; rw [List.length_map, rng_length]; omega
theorem rowOf_get {n : Nat} {φ : Int → Option Int} {i : Int} (h0 : 0 ≤ i) (h1 : i < n) : (rowOf n φ)[i.toNat]? = some (φ i) := by
  unfold rowOf rng
  rw [List.getElem?_map, List.getElem?_map, List.getElem?_range (by omega)]
  show some (φ (0 + (i.toNat : Int))) = _
  rw [show (0 + (i.toNat : Int)) = i by omega]
theorem rowOf_at {n : Nat} {φ : Int → Option Int} {i : Int} (h0 : 0 ≤ i) (h1 : i < n) : at_ (rowOf n φ) i = some (φ i) := at_int h0 (rowOf_get h0 h1)
theorem rowOf_ext {n : Nat} {φ ψ : Int → Option Int} (h : ∀ i, 0 ≤ i → i < (n : Int) → φ i = ψ i) : rowOf n φ = rowOf n ψ := List.map_congr_left fun i hi => h i (mem_rng.mp hi).1 (mem_rng.mp hi).2
theorem rowOf_set {n : Nat} {φ : Int → Option Int} {i : Int} {y : Option Int} (h0 : 0 ≤ i) (h1 : i < n) : setAt (rowOf n φ) i y = some (rowOf n fun j => if i = j then y else φ j) := by
  rw [setAt_ok h0 (by rw [rowOf_len]; exact h1)]
  congr 1
  refine List.ext_getElem? fun k => ?_
  by_cases hk : k < n
  · have e := rowOf_get (n := n) (φ := fun j => if i = j then y else φ j) (i := (k : Int)) (by omega) (by omega)
    rw [Int.toNat_natCast] at e
    rw [e]
    by_cases c : i = (k : Int)
    · rw [if_pos c, show i.toNat = k by omega, List.getElem?_set_self (by rw [rowOf_len]; exact hk)]
    · rw [if_neg c, List.getElem?_set_ne (by omega)]
      have e2 := rowOf_get (n := n) (φ := φ) (i := (k : Int)) (by omega) (by omega)
      rw [Int.toNat_natCast] at e2; exact e2
  · rw [List.getElem?_eq_none (by rw [List.length_set, rowOf_len]; omega), List.getElem?_eq_none (by rw [rowOf_len]; omega)]
theorem rowOf_none {n : Nat} (hn : n ≤ 1000) : repL [(none : Option Int)] (n : Int) = some (rowOf n fun _ => none) := by
  rw [repL_one _ (by omega)]
  congr 1
  unfold rowOf
  rw [List.map_const', rng_length, show ((n : Int) - 0).toNat = n by omega]
theorem map_go {α β : Type} {f : List β → α → Option (List β)} (g : α → β) {xs : List α} (hl : xs.length ≤ 1000) (hf : ∀ s x, x ∈ xs → s.length ≤ 1000 → f s x = some (s ++ [g x])) : forN f [] xs = some (xs.map g) :=
  forN_thru (f := f) (st := fun pre => pre.map g) rfl (fun pre x suf e => by
    have hpl : pre.length ≤ 1000 := by have := congrArg List.length e; rw [List.length_append] at this; omega
    rw [hf _ x (mem_mid e) (by rw [List.length_map]; exact hpl), List.map_append]; rfl)
theorem rowOf_go {n : Nat} (hn : n ≤ 1000) {f : List (Option Int) → Int → Option (List (Option Int))} (φ : Int → Option Int) (hf : ∀ (s : List (Option Int)) (x : Int), 0 ≤ x → x < n → f s x = (app s (φ x)).bind fun y => some y) : forN f [] (rng 0 (n : Int)) = some (rowOf n φ) :=
  map_go φ (by rw [rng_length]; omega) fun s x hx hs => by
    have hx := mem_rng.mp hx
    rw [hf s x hx.1 hx.2, app_ok (lt_big (by omega))]; rfl
/-- a walk whose turns change the row place by place -/
theorem rowM {β : Type} {n : Nat} {f : List (Option Int) → β → Option (List (Option Int))} (st : β → Int → Option Int → Option Int) : ∀ {xs : List β} {φ : Int → Option Int}, (∀ φ x, x ∈ xs → f (rowOf n φ) x = some (rowOf n fun i => st x i (φ i))) → forN f (rowOf n φ) xs = some (rowOf n fun i => xs.foldl (fun v x => st x i v) (φ i))
  | [], φ, _ => rfl
  | x :: xs, φ, h => by rw [forN_cons, h φ x (List.mem_cons_self ..), Option.bind_some, rowM st (fun φ y hy => h φ y (List.mem_cons_of_mem _ hy))]; rfl
theorem rowOf_same {n : Nat} {φ : Int → Option Int} {j : Int} : rowOf n (fun i => if j = i then φ i else φ i) = rowOf n φ := rowOf_ext fun i _ _ => by split <;> rfl
theorem fold_const {F : Int → Option Int} {i : Int} : ∀ {xs : List Int} {v : Option Int}, xs.foldl (fun v x => if x = i then F x else v) v = if i ∈ xs then F i else v
  | [], v => by simp
  | x :: xs, v => by
    rw [List.foldl_cons, fold_const]
    by_cases h : x = i
    · subst h
      rw [if_pos rfl, if_pos (List.mem_cons_self ..)]
      split <;> rfl
    · rw [if_neg h]
      by_cases k : i ∈ xs
      · rw [if_pos k, if_pos (List.mem_cons_of_mem _ k)]
      · rw [if_neg k, if_neg fun z => by rcases List.mem_cons.mp z with z | z; exact h z.symm; exact k z]
theorem fold_one {new : Int → Option Int → Option Int} {i : Int} : ∀ {xs : List Int} {v : Option Int}, xs.Nodup → xs.foldl (fun v x => if x = i then new x v else v) v = if i ∈ xs then new i v else v
  | [], v, _ => by simp
  | x :: xs, v, nd => by
    have nd := List.nodup_cons.mp nd
    rw [List.foldl_cons, fold_one nd.2]
    by_cases h : x = i
    · subst h
      rw [if_pos rfl, if_neg nd.1, if_pos (List.mem_cons_self ..)]
    · rw [if_neg h]
      by_cases k : i ∈ xs
      · rw [if_pos k, if_pos (List.mem_cons_of_mem _ k)]
      · rw [if_neg k, if_neg fun z => by rcases List.mem_cons.mp z with z | z; exact h z.symm; exact k z]
theorem enum_rng : ∀ (m : Nat) (k : Int), enumF k (rng k (k + m)) = (rng k (k + m)).map fun p => (p, p)
  | 0, k => by rw [rng_nil (by omega)]; rfl
  | m + 1, k => by
    rw [rng_cons (by omega)]
    show (k, k) :: enumF (k + 1) _ = (k, k) :: _
    rw [show k + ((m + 1 : Nat) : Int) = (k + 1) + (m : Int) by omega, enum_rng m (k + 1)]
theorem enum_row (n : Nat) (ψ : Int → Option Int) : enumF 0 (rowOf n ψ) = (rng 0 (n : Int)).map fun p => (p, ψ p) := by
  unfold rowOf
  have e := enum_rng n 0
  rw [Int.zero_add] at e
  rw [enumF_map, e, List.map_map]; rfl
/-! ### greatest and least of what may be none -/
def mxo (v o : Option Int) : Option Int := match o with
  | none => v
  | some b => match v with
    | none => some b
    | some a => if b < a then some a else some b
def mno (v o : Option Int) : Option Int := match o with
  | none => v
  | some b => match v with
    | none => some b
    | some a => if a < b then some a else some b
theorem mx_fold {β : Type} (val : β → Option Int) : ∀ (xs : List β) (v0 : Option Int), (∀ a, xs.foldl (fun v q => mxo v (val q)) v0 = some a → v0 = some a ∨ ∃ q ∈ xs, val q = some a) ∧ (∀ a, v0 = some a → ∃ b, xs.foldl (fun v q => mxo v (val q)) v0 = some b ∧ a ≤ b) ∧ ∀ q ∈ xs, ∀ a, val q = some a → ∃ b, xs.foldl (fun v q => mxo v (val q)) v0 = some b ∧ a ≤ b
  | [], v0 => ⟨fun a h => .inl h, fun a h => ⟨a, h, Int.le_refl _⟩, fun q h => nomatch h⟩
  | q :: xs, v0 => by
    obtain ⟨h1, h2, h3⟩ := mx_fold val xs (mxo v0 (val q))
    have key : ∀ a, v0 = some a → ∃ b, mxo v0 (val q) = some b ∧ a ≤ b := fun a h => by
      subst h
      cases e : val q with
      | none => exact ⟨a, rfl, Int.le_refl _⟩
      | some b =>
        unfold mxo
        by_cases c : b < a
        · exact ⟨a, if_pos c, Int.le_refl _⟩
        · exact ⟨b, if_neg c, by omega⟩
    have key2 : ∀ a, val q = some a → ∃ b, mxo v0 (val q) = some b ∧ a ≤ b := fun a h => by
      rw [h]
      cases v0 with
      | none => exact ⟨a, rfl, Int.le_refl _⟩
      | some b =>
        unfold mxo
        by_cases c : a < b
        · exact ⟨b, if_pos c, by omega⟩
        · exact ⟨a, if_neg c, Int.le_refl _⟩
    have key3 : ∀ a, mxo v0 (val q) = some a → v0 = some a ∨ val q = some a := fun a h => by
      cases e : val q with
      | none => rw [e] at h; exact .inl h
      | some b =>
        rw [e] at h
        cases v0 with
        | none => exact .inr h
        | some d =>
          have h : (if b < d then some d else some b) = some a := h
          by_cases c : b < d
          · rw [if_pos c] at h; exact .inl h
          · rw [if_neg c] at h; exact .inr h
    refine ⟨fun a h => ?_, fun a h => ?_, fun r hr a h => ?_⟩
    · rcases h1 a h with h | ⟨r, hr, h⟩
      · rcases key3 a h with h | h
        · exact .inl h
        · exact .inr ⟨q, List.mem_cons_self .., h⟩
      · exact .inr ⟨r, List.mem_cons_of_mem _ hr, h⟩
    · obtain ⟨b, e, hb⟩ := key a h
      obtain ⟨d, e2, hd⟩ := h2 b e
      exact ⟨d, e2, by omega⟩
    · rcases List.mem_cons.mp hr with rfl | hr
      · obtain ⟨b, e, hb⟩ := key2 a h
        obtain ⟨d, e2, hd⟩ := h2 b e
        exact ⟨d, e2, by omega⟩
      · exact h3 r hr a h
theorem mn_fold {β : Type} (val : β → Option Int) : ∀ (xs : List β) (v0 : Option Int), (∀ a, xs.foldl (fun v q => mno v (val q)) v0 = some a → v0 = some a ∨ ∃ q ∈ xs, val q = some a) ∧ (∀ a, v0 = some a → ∃ b, xs.foldl (fun v q => mno v (val q)) v0 = some b ∧ b ≤ a) ∧ ∀ q ∈ xs, ∀ a, val q = some a → ∃ b, xs.foldl (fun v q => mno v (val q)) v0 = some b ∧ b ≤ a
  | [], v0 => ⟨fun a h => .inl h, fun a h => ⟨a, h, Int.le_refl _⟩, fun q h => nomatch h⟩
  | q :: xs, v0 => by
    obtain ⟨h1, h2, h3⟩ := mn_fold val xs (mno v0 (val q))
    have key : ∀ a, v0 = some a → ∃ b, mno v0 (val q) = some b ∧ b ≤ a := fun a h => by
      subst h
      cases e : val q with
      | none => exact ⟨a, rfl, Int.le_refl _⟩
      | some b =>
        unfold mno
        by_cases c : a < b
        · exact ⟨a, if_pos c, Int.le_refl _⟩
        · exact ⟨b, if_neg c, by omega⟩
    have key2 : ∀ a, val q = some a → ∃ b, mno v0 (val q) = some b ∧ b ≤ a := fun a h => by
      rw [h]
      cases v0 with
      | none => exact ⟨a, rfl, Int.le_refl _⟩
      | some b =>
        unfold mno
        by_cases c : b < a
        · exact ⟨b, if_pos c, by omega⟩
        · exact ⟨a, if_neg c, Int.le_refl _⟩
    have key3 : ∀ a, mno v0 (val q) = some a → v0 = some a ∨ val q = some a := fun a h => by
      cases e : val q with
      | none => rw [e] at h; exact .inl h
      | some b =>
        rw [e] at h
        cases v0 with
        | none => exact .inr h
        | some d =>
          have h : (if d < b then some d else some b) = some a := h
          by_cases c : d < b
          · rw [if_pos c] at h; exact .inl h
          · rw [if_neg c] at h; exact .inr h
    refine ⟨fun a h => ?_, fun a h => ?_, fun r hr a h => ?_⟩
    · rcases h1 a h with h | ⟨r, hr, h⟩
      · rcases key3 a h with h | h
        · exact .inl h
        · exact .inr ⟨q, List.mem_cons_self .., h⟩
      · exact .inr ⟨r, List.mem_cons_of_mem _ hr, h⟩
    · obtain ⟨b, e, hb⟩ := key a h
      obtain ⟨d, e2, hd⟩ := h2 b e
      exact ⟨d, e2, by omega⟩
    · rcases List.mem_cons.mp hr with rfl | hr
      · obtain ⟨b, e, hb⟩ := key2 a h
        obtain ⟨d, e2, hd⟩ := h2 b e
        exact ⟨d, e2, by omega⟩
      · exact h3 r hr a h
/-! ### what a step reaches -/
def mvF (q : Int × Option Int) : Option (Int × Int) := q.2.map fun l => (q.1, l)
def mv (R : List (Option Int)) : List (Int × Int) := (enumF 0 R).filterMap mvF
theorem mv_fold' {new : Int → Option Int → Option Int} {i : Int} : ∀ (xs : List (Option Int)) (k : Int) (v : Option Int), ((enumF k xs).filterMap mvF).foldl (fun v q => if q.1 = i then new q.2 v else v) v = if k ≤ i then (match (xs[(i - k).toNat]?).getD none with | some l => new l v | none => v) else v
  | [], k, v => by
    show v = _
    by_cases c : k ≤ i
    · rw [if_pos c]; rfl
    · rw [if_neg c]
  | none :: xs, k, v => by
    have e : (enumF k (none :: xs)).filterMap mvF = (enumF (k + 1) xs).filterMap mvF := rfl
    rw [e, mv_fold' xs (k + 1) v]
    by_cases c : k ≤ i
    · rw [if_pos c]
      by_cases d : k = i
      · subst d
        rw [if_neg (by omega), show (k - k).toNat = 0 by omega]; rfl
      · rw [if_pos (by omega), show (i - k).toNat = (i - (k + 1)).toNat + 1 by omega, List.getElem?_cons_succ]
    · rw [if_neg c, if_neg (by omega)]
  | some l :: xs, k, v => by
    have e : (enumF k (some l :: xs)).filterMap mvF = (k, l) :: (enumF (k + 1) xs).filterMap mvF := rfl
    rw [e, List.foldl_cons, mv_fold' xs (k + 1) _]
    show (if k + 1 ≤ i then _ else if k = i then new l v else v) = _
    by_cases c : k ≤ i
    · rw [if_pos c]
      by_cases d : k = i
      · subst d
        rw [if_neg (by omega), if_pos rfl, show (k - k).toNat = 0 by omega]; rfl
      · rw [if_pos (by omega), if_neg d, show (i - k).toNat = (i - (k + 1)).toNat + 1 by omega, List.getElem?_cons_succ]
    · rw [if_neg c, if_neg (by omega), if_neg (by omega)]
theorem mv_fold {new : Int → Option Int → Option Int} {i : Int} {R : List (Option Int)} {v : Option Int} (h0 : 0 ≤ i) : (mv R).foldl (fun v q => if q.1 = i then new q.2 v else v) v = match gO R i with | some l => new l v | none => v := by
  unfold mv
  rw [mv_fold' R 0 v, if_pos h0, Int.sub_zero]; rfl
theorem mv_none {new : Int → Option Int → Option Int} {i : Int} {R : List (Option Int)} {v : Option Int} (h0 : 0 ≤ i) (h : gO R i = none) : (mv R).foldl (fun v q => if q.1 = i then new q.2 v else v) v = v := by rw [mv_fold h0, h]
theorem mv_some {new : Int → Option Int → Option Int} {i l : Int} {R : List (Option Int)} {v : Option Int} (h0 : 0 ≤ i) (h : gO R i = some l) : (mv R).foldl (fun v q => if q.1 = i then new q.2 v else v) v = new l v := by rw [mv_fold h0, h]
theorem enum_get {α : Type} : ∀ (xs : List α) (k : Int) {p : Int × α}, p ∈ enumF k xs → ∃ i : Nat, xs[i]? = some p.2 ∧ p.1 = k + i
  | [], _, _, h => nomatch h
  | x :: xs, k, p, h => by
    rcases List.mem_cons.mp (show p ∈ (k, x) :: enumF (k + 1) xs from h) with rfl | h
    · exact ⟨0, rfl, by show k = k + 0; omega⟩
    · obtain ⟨i, h1, h2⟩ := enum_get xs (k + 1) h
      exact ⟨i + 1, h1, by rw [h2]; omega⟩
theorem enum_put {α : Type} : ∀ (xs : List α) (k : Int) {i : Nat} {x : α}, xs[i]? = some x → (k + i, x) ∈ enumF k xs
  | [], _, _, _, h => by simp at h
  | y :: xs, k, 0, x, h => by
    obtain rfl := Option.some.inj h
    rw [show k + ((0 : Nat) : Int) = k by omega]; exact List.mem_cons_self ..
  | y :: xs, k, i + 1, x, h => by
    have := enum_put xs (k + 1) (i := i) (x := x) h
    rw [show k + ((i + 1 : Nat) : Int) = k + 1 + (i : Int) by omega]; exact List.mem_cons_of_mem _ this
theorem mv_mem {R : List (Option Int)} {q : Int × Int} : q ∈ mv R ↔ 0 ≤ q.1 ∧ q.1 < R.length ∧ gO R q.1 = some q.2 := by
  unfold mv
  rw [List.mem_filterMap]
  constructor
  · rintro ⟨p, hp, e⟩
    obtain ⟨i, h1, h2⟩ := enum_get _ _ hp
    obtain ⟨l, hl, rfl⟩ := Option.map_eq_some_iff.mp (show p.2.map (fun l => (p.1, l)) = some q from e)
    have hi := (List.getElem?_eq_some_iff.mp h1).1
    refine ⟨by show 0 ≤ p.1; omega, by show p.1 < _; omega, ?_⟩
    show R[p.1.toNat]?.getD none = some l
    rw [show p.1.toNat = i by omega, h1]; exact hl
  · rintro ⟨h0, h1, h2⟩
    have hg : R[q.1.toNat]? = some (R[q.1.toNat]'(by omega)) := List.getElem?_eq_getElem (by omega)
    have := enum_put R 0 hg
    rw [show (0 : Int) + ((q.1.toNat : Nat) : Int) = q.1 by omega] at this
    refine ⟨_, this, ?_⟩
    show (R[q.1.toNat]).map (fun l => (q.1, l)) = some q
    have h2 : R[q.1.toNat]?.getD none = some q.2 := h2
    rw [hg] at h2
    have h2 : R[q.1.toNat]'(by omega) = some q.2 := h2
    rw [h2]; rfl

theorem init_ok {d t hs : List Int} {ls : List (Int × Int)} (hd : DeepOk d) (hl : LanesG d.length ls) (ht : TideOk t) (hh : HarbG d.length hs) : m_Chart_init d ls t hs = some (chOf d ls t hs) := by
  simp only [m_Chart_init]
  refine bd (depths_ok_0 hd) (iff' rfl ?_)
  refine bd (lanes_ok_0 hl) (iff' rfl ?_)
  refine bd (tide_ok_0 ht) (iff' rfl ?_)
  refine bd (harb_ok_0 hh) (iff' rfl ?_)
  refine bd (ordered_ok_0 hl.2.2) ?_
  exact bd (joined_of hd.2.1 hl) rfl
theorem chart_ok {s : SeaT} (h : SeaOk s) : m_l_chart s = some (chOf s.1 s.2.1 s.2.2.1 s.2.2.2) := by
  simp only [m_l_chart]
  exact bd (init_ok h.1 h.2.1.g h.2.2.1 (h.2.2.2.g h.1.2.1)) rfl

/-! ### touching (a part of P_rings, alone) -/
section
variable {s : SeaT} (hs : SeaOk s)
include hs
theorem touch_law (here : List Int) (x : Int) : m_l_touches s here x = some ((nbOf (sortP (s.2.1.map nrm)) x).any (fun q => here.contains q)) := by
  unfold m_l_touches
  have hlm : ∀ p ∈ s.2.1, p.1 < p.2 := fun p hp => (hs.2.1.1 p hp).2.1
  have em := map_nrm hlm
  have z := forR_any (f := m_l_touches_b1 here x) (xs := s.2.1) (fun l => (decide (l.1 = x) && here.contains l.2) || (decide (l.2 = x) && here.contains l.1)) (fun l hm => by
    unfold m_l_touches_b1
    cases (decide (l.1 = x) && here.contains l.2)
    · cases (decide (l.2 = x) && here.contains l.1) <;> rfl
    · rfl)
  refine bd z ?_
  have e : s.2.1.any (fun l => (decide (l.1 = x) && here.contains l.2) || (decide (l.2 = x) && here.contains l.1)) = (nbOf (sortP (s.2.1.map nrm)) x).any (fun q => here.contains q) := by
    rw [Bool.eq_iff_iff, List.any_eq_true, List.any_eq_true]
    constructor
    · rintro ⟨l, hm, h⟩
      rw [Bool.or_eq_true, Bool.and_eq_true, Bool.and_eq_true, decide_eq_true_eq, decide_eq_true_eq] at h
      rcases h with ⟨rfl, h⟩ | ⟨rfl, h⟩
      · exact ⟨l.2, ((nb_spec hs.2.1.g _).2 _).mpr (.inl (by rw [em]; exact hm)), h⟩
      · exact ⟨l.1, ((nb_spec hs.2.1.g _).2 _).mpr (.inr (by rw [em]; exact hm)), h⟩
    · rintro ⟨q, hq, h⟩
      rcases ((nb_spec hs.2.1.g _).2 _).mp hq with hq | hq
      · rw [em] at hq; exact ⟨_, hq, by simp only [decide_true, Bool.true_and, h, Bool.true_or]⟩
      · rw [em] at hq; exact ⟨_, hq, by simp only [decide_true, Bool.true_and, h, Bool.or_true]⟩
  rw [e]
  cases (nbOf (sortP (s.2.1.map nrm)) x).any (fun q => here.contains q) <;> rfl
end

/-! ### lights (a part of P_light, alone) -/
abbrev Lt := Int × List Nat × Int
def Sg (s : List Nat) : Prop := ∀ c ∈ s, c = 42 ∨ c = 46
def Pat (p : List Nat) : Prop := 1 ≤ p.length ∧ p.length ≤ 12 ∧ Sg p
theorem lit_ok {p : List Nat} (hp : Pat p) {a b : Int} (a0 : 0 ≤ a) (a1 : a < 12) (b0 : 0 ≤ b) (b1 : b < 4) : m_Light_init a p b = some (a, p, b) := by
  have hl : p.length ≤ 100000 := by have := hp.2.1; omega
  have hpat : m_is_pattern p = some true := by
    unfold m_is_pattern
    refine bd (sLen_ok hl) (bd (x := false) (iff' (decide_eq_false (by have := hp.1; omega)) (bd (sLen_ok hl) (by rw [decide_eq_false (by have := hp.2.1; omega)]))) (iff' rfl ?_))
    refine bd (forN_flat (h := fun _ => ([] : List (List Nat))) (fun _ => Nat.zero_le _) (by unfold signs; rw [List.length_map]; exact le_big (by show 0 + p.length ≤ 100000; omega)) (fun acc x hx hb => ?_)) ?_
    · unfold signs at hx
      obtain ⟨c, hc, rfl⟩ := List.mem_map.mp hx
      rw [List.append_nil]
      rcases hp.2.2 c hc with rfl | rfl <;> rfl
    · have e : (signs p).flatMap (fun _ => ([] : List (List Nat))) = [] := by rw [List.flatMap_eq_nil_iff]; exact fun _ _ => rfl
      rw [List.nil_append, e]
      rfl
  unfold m_Light_init
  refine iff' ?_ (bd hpat (iff' rfl (iff' ?_ rfl)))
  · rw [decide_eq_false (show ¬ a < 0 by omega), decide_eq_false (show ¬ 11 < a by omega)]; rfl
  · rw [decide_eq_false (show ¬ b < 0 by omega), decide_eq_false (show ¬ 3 < b by omega)]; rfl

/-! ### flood -/
/-- the places that k lanes reach, on allowed places -/
def ball (n : Nat) (N : Int → List Int) (W : List Bool) (st : Int) : Nat → Int → Bool
  | 0, p => decide (p = st)
  | k + 1, p => ball n N W st k p || (gB W p && (rng 0 (n : Int)).any fun q => ball n N W st k q && (N q).contains p)
section
variable {n : Nat} {N : Int → List Int} {W : List Bool} {st : Int}
theorem ball_succ {k : Nat} {p : Int} : ball n N W st (k + 1) p = true ↔ ball n N W st k p = true ∨ (gB W p = true ∧ ∃ q : Int, 0 ≤ q ∧ q < (n : Int) ∧ ball n N W st k q = true ∧ p ∈ N q) := by
  show (ball n N W st k p || (gB W p && (rng 0 (n : Int)).any fun q => ball n N W st k q && (N q).contains p)) = true ↔ _
  rw [Bool.or_eq_true, Bool.and_eq_true, List.any_eq_true]
  constructor
  · rintro (z | ⟨a, q, hq, z⟩)
    · exact .inl z
    · rw [Bool.and_eq_true] at z
      exact .inr ⟨a, q, (mem_rng.mp hq).1, (mem_rng.mp hq).2, z.1, List.contains_iff_mem.mp z.2⟩
  · rintro (z | ⟨a, q, q0, q1, z, hp⟩)
    · exact .inl z
    · exact .inr ⟨a, q, mem_rng.mpr ⟨q0, q1⟩, by rw [z, contains_true hp]; rfl⟩
theorem ball_up {p : Int} {k : Nat} : ∀ {j : Nat}, ball n N W st k p = true → ball n N W st (k + j) p = true
  | 0, h => h
  | j + 1, h => ball_succ.mpr (.inl (ball_up (j := j) h))
theorem ball_mono {p : Int} {k j : Nat} (hj : k ≤ j) (h : ball n N W st k p = true) : ball n N W st j p = true := by
  obtain ⟨i, rfl⟩ := Nat.le.dest hj
  exact ball_up h
theorem ball_rng (s0 : 0 ≤ st) (s1 : st < n) (hr : ∀ p q, q ∈ N p → 0 ≤ q ∧ q < (n : Int)) : ∀ {k : Nat} {p : Int}, ball n N W st k p = true → 0 ≤ p ∧ p < n
  | 0, p, h => by obtain rfl := of_decide_eq_true (show decide (p = st) = true from h); exact ⟨s0, s1⟩
  | k + 1, p, h => by
    rcases ball_succ.mp h with z | ⟨_, q, _, _, _, z⟩
    · exact ball_rng s0 s1 hr z
    · exact hr _ _ z
variable (n N W st) in
/-- the counts after k rounds -/
structure Lvl (k : Nat) (φ : Int → Option Int) (L : List Int) : Prop where
  a : ∀ p : Int, 0 ≤ p → p < (n : Int) → ∀ r : Nat, r ≤ k → ((∃ d, φ p = some d ∧ 0 ≤ d ∧ d ≤ (r : Int)) ↔ ball n N W st r p = true)
  b : ∀ (p d : Int), 0 ≤ p → p < (n : Int) → φ p = some d → 0 ≤ d ∧ d ≤ (k : Int)
  c : ∀ p : Int, p ∈ L ↔ 0 ≤ p ∧ p < (n : Int) ∧ φ p = some (k : Int)
  d : L.Nodup
  e : ∃ l : List Int, l.Nodup ∧ l.length = k ∧ ∀ x ∈ l, (0 ≤ x ∧ x < n) ∧ ∃ d, φ x = some d ∧ d < (k : Int)
theorem Lvl.nw {k : Nat} {φ : Int → Option Int} {L : List Int} (h : Lvl n N W st k φ L) {p : Int} (p0 : 0 ≤ p) (p1 : p < n) (hp : φ p = none) : ball n N W st (k + 1) p = true ↔ gB W p = true ∧ ∃ q ∈ L, p ∈ N q := by
  have nk : ∀ j, j ≤ k → ¬ ball n N W st j p = true := fun j hj z => by
    obtain ⟨d, e, _⟩ := (h.a p p0 p1 j hj).mpr z
    rw [hp] at e; cases e
  rw [ball_succ]
  constructor
  · rintro (z | ⟨w, q, q0, q1, z, hq⟩)
    · exact absurd z (nk k (Nat.le_refl _))
    · obtain ⟨d, e, d0, d1⟩ := (h.a q q0 q1 k (Nat.le_refl _)).mpr z
      by_cases c : d = (k : Int)
      · exact ⟨w, q, (h.c q).mpr ⟨q0, q1, c ▸ e⟩, hq⟩
      · have b := (h.a q q0 q1 d.toNat (by omega)).mp ⟨d, e, d0, by omega⟩
        exact absurd (ball_succ.mpr (.inr ⟨w, q, q0, q1, b, hq⟩)) (nk (d.toNat + 1) (by omega))
  · rintro ⟨w, q, hL, hq⟩
    obtain ⟨q0, q1, e⟩ := (h.c q).mp hL
    exact .inr ⟨w, q, q0, q1, (h.a q q0 q1 k (Nat.le_refl _)).mp ⟨k, e, by omega, Int.le_refl _⟩, hq⟩
/-- one round -/
theorem Lvl.step {k : Nat} {φ : Int → Option Int} {L L' : List Int} (h : Lvl n N W st k φ L) (hL : L ≠ []) (nd : L'.Nodup) (hs : ∀ p : Int, p ∈ L' ↔ (0 ≤ p ∧ p < (n : Int)) ∧ φ p = none ∧ gB W p = true ∧ ∃ q ∈ L, p ∈ N q) :
    Lvl n N W st (k + 1) (fun p => if p ∈ L' then some ((k : Int) + 1) else φ p) L' := by
  refine ⟨fun p p0 p1 r hr => ?_, fun p d p0 p1 e => ?_, fun p => ?_, nd, ?_⟩
  · by_cases c : p ∈ L'
    · have z := (hs p).mp c
      rw [if_pos c]
      by_cases e : r ≤ k
      · have nb : ¬ ball n N W st r p = true := fun y => by
          obtain ⟨d, e, _⟩ := (h.a p p0 p1 r e).mpr y
          rw [z.2.1] at e; cases e
        exact ⟨fun ⟨d, e1, _, e2⟩ => by obtain rfl := Option.some.inj e1; omega, fun y => absurd y nb⟩
      · obtain rfl : r = k + 1 := by omega
        exact ⟨fun _ => (h.nw p0 p1 z.2.1).mpr z.2.2, fun _ => ⟨_, rfl, by omega, by omega⟩⟩
    · rw [if_neg c]
      by_cases e : r ≤ k
      · exact h.a p p0 p1 r e
      · obtain rfl : r = k + 1 := by omega
        cases ep : φ p with
        | none =>
          exact ⟨fun ⟨d, z, _⟩ => (by cases z), fun z => absurd ((hs p).mpr ⟨⟨p0, p1⟩, ep, (h.nw p0 p1 ep).mp z⟩) c⟩
        | some d =>
          obtain ⟨d0, d1⟩ := h.b p d p0 p1 ep
          exact ⟨fun _ => ball_mono (Nat.le_succ k) ((h.a p p0 p1 k (Nat.le_refl _)).mp ⟨d, ep, d0, d1⟩), fun _ => ⟨d, rfl, d0, by omega⟩⟩
  · by_cases c : p ∈ L'
    · simp only [if_pos c] at e
      obtain rfl := Option.some.inj e; omega
    · simp only [if_neg c] at e
      have := h.b p d p0 p1 e; omega
  · by_cases c : p ∈ L'
    · simp only [if_pos c]
      exact ⟨fun _ => ⟨((hs p).mp c).1.1, ((hs p).mp c).1.2, rfl⟩, fun _ => c⟩
    · simp only [if_neg c]
      exact ⟨fun z => absurd z c, fun ⟨p0, p1, e⟩ => by have := h.b p _ p0 p1 e; omega⟩
  · obtain ⟨l, l1, l2, l3⟩ := h.e
    obtain ⟨x, hx⟩ := List.exists_mem_of_ne_nil L hL
    obtain ⟨x0, x1, ex⟩ := (h.c x).mp hx
    have keep : ∀ y, φ y ≠ none → ¬ y ∈ L' := fun y hy z => hy ((hs y).mp z).2.1
    refine ⟨x :: l, List.nodup_cons.mpr ⟨fun z => ?_, l1⟩, by rw [List.length_cons, l2], fun y hy => ?_⟩
    · obtain ⟨_, d, e, d1⟩ := l3 x z
      rw [ex] at e; obtain rfl := Option.some.inj e; omega
    · rcases List.mem_cons.mp hy with rfl | hy
      · refine ⟨⟨x0, x1⟩, k, ?_, by omega⟩
        rw [if_neg (keep y (by rw [ex]; exact Option.some_ne_none _))]; exact ex
      · obtain ⟨y1, d, e, d1⟩ := l3 y hy
        refine ⟨y1, d, ?_, by omega⟩
        rw [if_neg (keep y (by rw [e]; exact Option.some_ne_none _))]; exact e
theorem Lvl.lt {k : Nat} {φ : Int → Option Int} {L : List Int} (h : Lvl n N W st k φ L) : k ≤ n := by
  obtain ⟨l, l1, l2, l3⟩ := h.e
  have := nd_len (n := n) l1 (fun x hx => (l3 x hx).1)
  omega
theorem Lvl.all {k : Nat} {φ : Int → Option Int} (h : Lvl n N W st k φ []) {p : Int} (p0 : 0 ≤ p) (p1 : p < n) (r : Nat) : (∃ d, φ p = some d ∧ 0 ≤ d ∧ d ≤ (r : Int)) ↔ ball n N W st r p = true := by
  by_cases e : r ≤ k
  · exact h.a p p0 p1 r e
  have one : ∀ p, 0 ≤ p → p < (n : Int) → ball n N W st (k + 1) p = true → ball n N W st k p = true := fun p p0 p1 z => by
    cases ep : φ p with
    | none => obtain ⟨_, q, hq, _⟩ := (h.nw p0 p1 ep).mp z; cases hq
    | some d => obtain ⟨d0, d1⟩ := h.b p d p0 p1 ep; exact (h.a p p0 p1 k (Nat.le_refl _)).mp ⟨d, ep, d0, d1⟩
  have all : ∀ (j : Nat) p, 0 ≤ p → p < (n : Int) → ball n N W st (k + j) p = true → ball n N W st k p = true := by
    intro j
    induction j with
    | zero => exact fun p _ _ z => z
    | succ j ih =>
      intro p p0 p1 z
      rcases ball_succ.mp z with z | ⟨w, q, q0, q1, z, hq⟩
      · exact ih p p0 p1 z
      · exact one p p0 p1 (ball_succ.mpr (.inr ⟨w, q, q0, q1, ih q q0 q1 z, hq⟩))
  constructor
  · rintro ⟨d, e1, d0, d1⟩
    exact ball_mono (k := k) (by omega) ((h.a p p0 p1 k (Nat.le_refl _)).mp ⟨d, e1, d0, (h.b p d p0 p1 e1).2⟩)
  · intro z
    obtain ⟨j, rfl⟩ := Nat.le.dest (show k ≤ r by omega)
    obtain ⟨d, e1, d0, d1⟩ := (h.a p p0 p1 k (Nat.le_refl _)).mpr (all j p p0 p1 z)
    exact ⟨d, e1, d0, by omega⟩
end
/-- a chart's lanes -/
structure NbOk (ch : ChT) (n : Nat) (N : Int → List Int) : Prop where
  h0 : ch.1 = n
  h1 : n ≤ 12
  nb : ∀ p, 0 ≤ p → p < (n : Int) → m_Chart_neighbours ch p = some (N p)
  rg : ∀ p q, q ∈ N p → 0 ≤ q ∧ q < (n : Int)
  ln : ∀ p, (N p).length ≤ 66
section
variable {ch : ChT} {n : Nat} {N : Int → List Int} {W : List Bool} (hc : NbOk ch n N) (hw : W.length = n)
include hc hw
theorem an_l {q : Int} (q0 : 0 ≤ q) (q1 : q < n) : m_allowed_neighbours_l ch q W = some ((N q).filter (gB W)) := by
  unfold m_allowed_neighbours_l
  refine bd (hc.nb q q0 q1) (bd (forN_thru (st := fun pre => pre.filter (gB W)) rfl fun pre x suf e => ?_) rfl)
  have hx := hc.rg q x (mem_mid e)
  have hl := hc.ln q
  have hp : pre.length ≤ 66 := by have := congrArg List.length e; rw [List.length_append] at this; omega
  have hf := List.length_filter_le (gB W) pre
  unfold m_allowed_neighbours_l_b1
  rw [List.filter_append]
  by_cases c : gB W x = true
  · refine bd (bd (gB_at hx.1 (by omega)) (ift c (bd (app_ok (lt_big (by omega))) rfl))) ?_
    rw [List.filter_cons_of_pos c]; rfl
  · refine bd (bd (gB_at hx.1 (by omega)) (iff' (bf c) rfl)) ?_
    rw [List.filter_cons_of_neg c, List.filter_nil, List.append_nil]
theorem an_y {q : Int} (q0 : 0 ≤ q) (q1 : q < n) : m_allowed_neighbours ch q W ((N q).filter (gB W)) = some () := by
  unfold m_allowed_neighbours
  refine bd (hc.nb q q0 q1) (bd (forN_thru (st := fun pre => ((pre.filter (gB W)).length : Int)) rfl fun pre x suf e => ?_) (bd (guard_ok (decide_eq_true rfl)) rfl))
  have hx := hc.rg q x (mem_mid e)
  unfold m_allowed_neighbours_b1
  rw [List.filter_append]
  by_cases c : gB W x = true
  · refine bd (bd (gB_at hx.1 (by omega)) (ift c (bd (x := ((pre.filter (gB W)).length : Int) + 1) ?_ rfl))) ?_
    · unfold yld
      refine if_pos ⟨by omega, ?_⟩
      rw [Int.toNat_natCast, e, List.filter_append, List.filter_cons_of_pos c, List.getElem?_append_right (Nat.le_refl _), Nat.sub_self]; rfl
    · rw [List.filter_cons_of_pos c, List.length_append]; rfl
  · refine bd (bd (gB_at hx.1 (by omega)) (iff' (bf c) rfl)) ?_
    rw [List.filter_cons_of_neg c, List.filter_nil, List.append_nil]
/-- one place of the front -/
theorem fl_b2 {k : Nat} (hk : k ≤ 100) {φ : Int → Option Int} {L T : List Int} {q : Int} (hq : 0 ≤ q ∧ q < n ∧ φ q = some (k : Int)) (tn : T.Nodup) (ts : ∀ p : Int, p ∈ T ↔ (0 ≤ p ∧ p < (n : Int)) ∧ φ p = none ∧ gB W p = true ∧ ∃ q ∈ L, p ∈ N q) :
    ∃ T', m_flood_b2 ch W (rowOf n (fun p => if p ∈ T then some ((k : Int) + 1) else φ p), T) q = some (rowOf n (fun p => if p ∈ T' then some ((k : Int) + 1) else φ p), T') ∧ T'.Nodup ∧ ∀ p : Int, p ∈ T' ↔ (0 ≤ p ∧ p < (n : Int)) ∧ φ p = none ∧ gB W p = true ∧ ∃ q' ∈ L ++ [q], p ∈ N q' := by
  unfold m_flood_b2
  have h12 := hc.h1
  obtain ⟨s', e1, T', rfl, t1, t2⟩ := forN_ind (f := m_flood_b3 q) (xs := (N q).filter (gB W)) (s0 := (rowOf n (fun p => if p ∈ T then some ((k : Int) + 1) else φ p), T))
    (fun pre s => ∃ T', s = (rowOf n (fun p => if p ∈ T' then some ((k : Int) + 1) else φ p), T') ∧ T'.Nodup ∧ ∀ p : Int, p ∈ T' ↔ p ∈ T ∨ (φ p = none ∧ p ∈ pre)) ⟨T, rfl, tn, fun p => ⟨.inl, fun z => z.elim id fun z => absurd z.2 List.not_mem_nil⟩⟩ (fun pre x suf s e hp => by
      obtain ⟨T', rfl, t1, t2⟩ := hp
      have hx := List.mem_filter.mp (mem_mid e)
      have xr := hc.rg q x hx.1
      have tr : ∀ y ∈ T', 0 ≤ y ∧ y < (n : Int) := fun y hy => by
        rcases (t2 y).mp hy with z | z
        · exact ((ts y).mp z).1
        · exact hc.rg q y (List.mem_filter.mp (mem_pre e z.2)).1
      have tl := nd_len t1 tr
      have qn : ¬ q ∈ T' := fun z => by
        rcases (t2 q).mp z with z | z
        · have := ((ts q).mp z).2.1; rw [hq.2.2] at this; cases this
        · have := z.1; rw [hq.2.2] at this; cases this
      unfold m_flood_b3
      by_cases c : (if x ∈ T' then some ((k : Int) + 1) else φ x) = none
      · have cx : ¬ x ∈ T' := fun z => by rw [if_pos z] at c; cases c
        have cφ : φ x = none := by rw [if_neg cx] at c; exact c
        refine ⟨_, bd (bd (rowOf_at xr.1 xr.2) (ift (by rw [c]; rfl) (bd (rowOf_at hq.1 hq.2.1) (bd (x := (k : Int)) (by rw [if_neg qn]; exact hq.2.2) (bd (rowOf_set xr.1 xr.2) (bd (app_ok (xs := T') (lt_big (by omega))) rfl)))))) rfl, T' ++ [x], ?_, ?_, fun p => ?_⟩
        · refine Prod.ext (rowOf_ext fun i _ _ => ?_) rfl
          by_cases ci : x = i
          · subst ci
            rw [if_pos rfl, if_pos (List.mem_append_right _ (List.mem_singleton.mpr rfl))]
          · rw [if_neg ci]
            have : i ∈ T' ++ [x] ↔ i ∈ T' := by
              rw [List.mem_append, List.mem_singleton]
              exact ⟨fun z => z.elim id fun z => absurd z.symm ci, .inl⟩
            by_cases h : i ∈ T'
            · rw [if_pos h, if_pos (this.mpr h)]
            · rw [if_neg h, if_neg fun z => h (this.mp z)]
        · rw [List.nodup_append]
          exact ⟨t1, List.nodup_cons.mpr ⟨List.not_mem_nil, .nil⟩, fun a ha b hb e => cx (by rw [List.mem_singleton] at hb; rw [← hb, ← e]; exact ha)⟩
        · rw [List.mem_append, List.mem_singleton, t2, List.mem_append, List.mem_singleton]
          constructor
          · rintro ((z | z) | z)
            · exact .inl z
            · exact .inr ⟨z.1, .inl z.2⟩
            · subst z; exact .inr ⟨cφ, .inr rfl⟩
          · rintro (z | ⟨z, y | y⟩)
            · exact .inl (.inl z)
            · exact .inl (.inr ⟨z, y⟩)
            · exact .inr y
      · refine ⟨_, bd (bd (rowOf_at xr.1 xr.2) (iff' (by cases h : (if x ∈ T' then some ((k : Int) + 1) else φ x) with | none => exact absurd h c | some _ => rfl) rfl)) rfl, T', rfl, t1, fun p => ?_⟩
        rw [t2, List.mem_append, List.mem_singleton]
        constructor
        · rintro (z | z)
          · exact .inl z
          · exact .inr ⟨z.1, .inl z.2⟩
        · rintro (z | ⟨z, y | y⟩)
          · exact .inl z
          · exact .inr ⟨z, y⟩
          · subst y
            by_cases h : p ∈ T'
            · exact (t2 p).mp h
            · rw [if_neg h] at c; exact absurd z c)
  refine ⟨T', bd (an_l hc hw hq.1 hq.2.1) (bd (an_y hc hw hq.1 hq.2.1) (bd e1 rfl)), t1, fun p => ?_⟩
  rw [t2, ts]
  constructor
  · rintro (⟨a, b, c, q', d, e⟩ | ⟨a, b⟩)
    · exact ⟨a, b, c, q', List.mem_append_left _ d, e⟩
    · have b := List.mem_filter.mp b
      exact ⟨hc.rg q p b.1, a, b.2, q, List.mem_append_right _ (List.mem_singleton.mpr rfl), b.1⟩
  · rintro ⟨a, b, c, q', d, e⟩
    rcases List.mem_append.mp d with d | d
    · exact .inl ⟨a, b, c, q', d, e⟩
    · rw [List.mem_singleton] at d; subst d
      exact .inr ⟨b, List.mem_filter.mpr ⟨e, c⟩⟩
/-- one round -/
theorem fl_b1 {st : Int} {k : Nat} {φ : Int → Option Int} {L : List Int} (h : Lvl n N W st k φ L) (hL : L ≠ []) : ∃ φ' L', m_flood_b1 ch W (rowOf n φ, L) = some (rowOf n φ', L') ∧ Lvl n N W st (k + 1) φ' L' := by
  have hk := h.lt
  have h12 := hc.h1
  obtain ⟨s', e1, T', rfl, t1, t2⟩ := forN_ind (f := m_flood_b2 ch W) (xs := L) (s0 := (rowOf n φ, ([] : List Int)))
    (fun pre s => ∃ T', s = (rowOf n (fun p => if p ∈ T' then some ((k : Int) + 1) else φ p), T') ∧ T'.Nodup ∧ ∀ p : Int, p ∈ T' ↔ (0 ≤ p ∧ p < (n : Int)) ∧ φ p = none ∧ gB W p = true ∧ ∃ q ∈ pre, p ∈ N q)
    ⟨[], Prod.ext (rowOf_ext fun i _ _ => (if_neg List.not_mem_nil).symm) rfl, .nil, fun p => ⟨fun z => absurd z List.not_mem_nil, fun ⟨_, _, _, q, z, _⟩ => absurd z List.not_mem_nil⟩⟩ (fun pre q suf s e hp => by
      obtain ⟨T', rfl, t1, t2⟩ := hp
      obtain ⟨T2, e2, u1, u2⟩ := fl_b2 hc hw (k := k) (by omega) ((h.c q).mp (mem_mid e)) t1 t2
      exact ⟨_, e2, T2, rfl, u1, u2⟩)
  refine ⟨_, T', ?_, h.step hL t1 t2⟩
  unfold m_flood_b1
  exact bd e1 rfl
theorem fl_run {st : Int} : ∀ (j k m : Nat) (φ : Int → Option Int) (L : List Int), k + j = n + 1 → j ≤ m → Lvl n N W st k φ L → ∃ φ', (whileN m_flood_c1 (m_flood_b1 ch W) m (rowOf n φ, L)) = some (rowOf n φ', []) ∧ ∃ k', Lvl n N W st k' φ' []
  | 0, k, m, φ, L, e, _, h => by have := h.lt; omega
  | j + 1, k, 0, φ, L, e, hm, h => by omega
  | j + 1, k, m + 1, φ, L, e, hm, h => by
    by_cases c : L = []
    · subst c
      exact ⟨φ, rfl, k, h⟩
    · obtain ⟨φ', L', e1, h'⟩ := fl_b1 hc hw h c
      obtain ⟨φ2, e2, r⟩ := fl_run j (k + 1) m φ' L' (by omega) (by omega) h'
      refine ⟨φ2, ?_, r⟩
      show (m_flood_c1 (rowOf n φ, L)).bind (fun t => if t = true then (m_flood_b1 ch W (rowOf n φ, L)).bind (fun s' => whileN m_flood_c1 (m_flood_b1 ch W) m s') else _) = _
      refine bd (x := true) ?_ (ift rfl (bd e1 e2))
      unfold m_flood_c1
      cases L with
      | nil => exact absurd rfl c
      | cons _ _ => rfl
/-- flood gives the least number of lanes -/
theorem flood_ok {st : Int} (s0 : 0 ≤ st) (s1 : st < n) (hs : gB W st = true) : ∃ φ, m_flood ch st W = some (rowOf n φ) ∧ (∀ p, 0 ≤ p → p < (n : Int) → ∀ r : Nat, (∃ d, φ p = some d ∧ 0 ≤ d ∧ d ≤ (r : Int)) ↔ ball n N W st r p = true) ∧ ∀ p d, 0 ≤ p → p < (n : Int) → φ p = some d → 0 ≤ d ∧ d ≤ (n : Int) := by
  have h12 := hc.h1
  have L0 : Lvl n N W st 0 (fun p => if st = p then some 0 else none) [st] := by
    refine ⟨fun p p0 p1 r hr => ?_, fun p d p0 p1 e => ?_, fun p => ?_, List.nodup_cons.mpr ⟨List.not_mem_nil, .nil⟩, [], .nil, rfl, fun x hx => absurd hx List.not_mem_nil⟩
    · obtain rfl : r = 0 := by omega
      show _ ↔ decide (p = st) = true
      by_cases c : st = p
      · rw [if_pos c]; exact ⟨fun _ => decide_eq_true c.symm, fun _ => ⟨0, rfl, by omega, by omega⟩⟩
      · rw [if_neg c]; exact ⟨fun ⟨d, z, _⟩ => (by cases z), fun z => absurd (of_decide_eq_true z).symm c⟩
    · by_cases c : st = p
      · simp only [if_pos c] at e; obtain rfl := Option.some.inj e; omega
      · simp only [if_neg c] at e; cases e
    · rw [List.mem_singleton]
      constructor
      · rintro rfl; exact ⟨s0, s1, if_pos rfl⟩
      · rintro ⟨_, _, e⟩
        by_cases c : st = p
        · exact c.symm
        · rw [if_neg c] at e; cases e
  obtain ⟨φ, e, k, h⟩ := fl_run hc hw (n + 1) 0 1000 _ [st] (by omega) (by omega) L0
  refine ⟨φ, ?_, fun p p0 p1 r => h.all p0 p1 r, fun p d p0 p1 z => by have := h.b p d p0 p1 z; have := h.lt; omega⟩
  unfold m_flood
  rw [hc.h0]
  refine bd (rowOf_none (by omega)) (bd (gB_at s0 (by omega)) (iff' (by rw [hs]; rfl) (bd (rowOf_set s0 s1) (bd e rfl))))
end

/-! ### the law -/
def filtB (n : Nat) (f : Int → Bool) : List Int := (rng 0 (n : Int)).flatMap fun x => if f x = true then [x] else []
theorem forN_filtB {n : Nat} (hn : n ≤ 1000) {f : List Int → Int → Option (List Int)} (g : Int → Bool) (h : ∀ (acc : List Int) (x : Int), 0 ≤ x → x < (n : Int) → acc.length < big → f acc x = some (if g x = true then acc ++ [x] else acc)) : forN f [] (rng 0 (n : Int)) = some (filtB n g) := by
  have z := forN_flat (f := f) (fun x => if g x = true then [x] else []) (fun x => by by_cases c : g x = true <;> simp [c]) (xs := rng 0 (n : Int)) (acc := []) (le_big (by rw [rng_length]; show 0 + _ ≤ _; omega)) (fun acc x hx hb => by
    have hx := mem_rng.mp hx
    rw [h acc x hx.1 hx.2 hb]
    by_cases c : g x = true
    · rw [if_pos c, if_pos c]
    · rw [if_neg c, if_neg c, List.append_nil])
  rw [List.nil_append] at z
  exact z
theorem filtB_mem {n : Nat} {g : Int → Bool} {x : Int} : x ∈ filtB n g ↔ (0 ≤ x ∧ x < (n : Int)) ∧ g x = true := filt_mem
theorem filtB_lt {n : Nat} {g : Int → Bool} : (filtB n g).Pairwise (· < ·) := filt_lt g n
section
variable {s : SeaT} (hs : SeaOk s)
abbrev nbS (s : SeaT) : Int → List Int := nbOf (sortP (s.2.1.map nrm))
abbrev chS (s : SeaT) : ChT := chOf s.1 s.2.1 s.2.2.1 s.2.2.2
include hs
theorem nbS_ok : NbOk (chS s) s.1.length (nbS s) := ⟨rfl, hs.1.2.1, fun p p0 p1 => nb_is hs p0 p1, fun p q h => nb_rng hs h, fun p => by
  refine Nat.le_trans (nbOf_le _ p) ?_
  rw [sortP_len, List.length_map]; exact hs.2.1.2.2⟩
omit hs in
theorem full_gB {n : Nat} {p : Int} (p0 : 0 ≤ p) (p1 : p < (n : Int)) : gB (List.replicate n true) p = true := by
  unfold gB
  rw [List.getElem?_replicate, if_pos (by omega)]; rfl
theorem near_ok {st : Int} (s0 : 0 ≤ st) (s1 : st < s.1.length) {r : Nat} (hr : r ≤ 100) : ∃ Z, m_l_near s st (r : Int) = some Z ∧ Z.Pairwise (· < ·) ∧ ∀ p, p ∈ Z ↔ ball s.1.length (nbS s) (List.replicate s.1.length true) st r p = true := by
  have h12 := hs.1.2.1
  unfold m_l_near
  obtain ⟨Z, e, z1, z2⟩ := forN_ind (f := m_l_near_b1 s) (xs := rng 0 (r : Int)) (s0 := [st]) (fun pre L => L.Pairwise (· < ·) ∧ ∀ p, p ∈ L ↔ ball s.1.length (nbS s) (List.replicate s.1.length true) st pre.length p = true)
    ⟨List.pairwise_singleton _ _, fun p => by rw [List.mem_singleton]; exact decide_eq_true_iff.symm⟩ (fun pre x suf L e hp => by
      obtain ⟨l1, l2⟩ := hp
      unfold m_l_near_b1
      refine ⟨filtB s.1.length (fun p => L.contains p || (nbS s p).any fun q => L.contains q), bd (rngO_ok (by decide) (by decide) (by omega) (by omega)) (bd (forN_filtB (by omega) _ fun acc p p0 p1 hb => ?_) rfl), filtB_lt, fun p => ?_⟩
      · unfold m_l_near_b2
        refine bd (x := L.contains p || (nbS s p).any fun q => L.contains q) ?_ ?_
        · by_cases c : L.contains p = true
          · rw [c]; exact ift rfl rfl
          · rw [bf c]; exact iff' rfl (bd (touch_law hs L p) rfl)
        · by_cases c : (L.contains p || (nbS s p).any fun q => L.contains q) = true
          · rw [if_pos c, if_pos c]; exact bd (app_ok hb) rfl
          · rw [if_neg c, if_neg c]
      · rw [filtB_mem, List.length_append, List.length_singleton, ball_succ, Bool.or_eq_true, List.any_eq_true]
        constructor
        · rintro ⟨⟨p0, p1⟩, z | ⟨q, hq, z⟩⟩
          · exact .inl ((l2 p).mp (List.contains_iff_mem.mp z))
          · exact .inr ⟨full_gB p0 p1, q, (nb_rng hs hq).1, (nb_rng hs hq).2, (l2 q).mp (List.contains_iff_mem.mp z), nb_sym hs hq⟩
        · rintro (z | ⟨_, q, q0, q1, z, hq⟩)
          · exact ⟨ball_rng s0 s1 (fun p q h => nb_rng hs h) z, .inl (contains_true ((l2 p).mpr z))⟩
          · exact ⟨nb_rng hs hq, .inr ⟨q, nb_sym hs hq, contains_true ((l2 q).mpr z)⟩⟩)
  refine ⟨Z, bd (rngO_ok (by decide) (by decide) (by omega) (by omega)) (bd e rfl), z1, fun p => ?_⟩
  rw [z2, rng_length, show ((r : Int) - 0).toNat = r by omega]
theorem sight_ok {st : Int} (s0 : 0 ≤ st) (s1 : st < s.1.length) {r : Nat} (hr : r ≤ 100) (pt : List Nat) : ∃ Z, m_sight_zone (chS s) (st, pt, (r : Int)) = some Z ∧ m_l_near s st (r : Int) = some Z ∧ Z.length ≤ 12 := by
  have h12 := hs.1.2.1
  obtain ⟨Z, eZ, z1, z2⟩ := near_ok hs s0 s1 hr
  obtain ⟨φ, e1, e2, e3⟩ := flood_ok (nbS_ok hs) (W := List.replicate s.1.length true) (List.length_replicate ..) (st := st) s0 s1 (full_gB s0 s1)
  refine ⟨Z, ?_, eZ, Nat.le_trans (lt_len z1 fun x hx => ?_) h12⟩
  · unfold m_sight_zone
    have ep : m_every_place (chS s) = some (List.replicate s.1.length true) := bd (repL_one (n := s.1.length) true (by omega)) rfl
    refine bd ep (bd e1 (bd (rngO_ok (hi := (s.1.length : Int)) (by decide) (by decide) (by omega) (by omega)) (bd (forN_filtB (by omega) (fun p => match φ p with | some d => decide (d ≤ (r : Int)) | none => false) fun acc p p0 p1 hb => ?_) ?_)))
    · unfold m_sight_zone_b1
      refine bd (rowOf_at p0 p1) (bd (x := (match φ p with | some d => decide (d ≤ (r : Int)) | none => false)) ?_ ?_)
      · cases c : φ p with
        | none => rfl
        | some d => exact ift rfl (bd (rowOf_at p0 p1) (by rw [c]; rfl))
      · by_cases c : (match φ p with | some d => decide (d ≤ (r : Int)) | none => false) = true
        · rw [if_pos c, if_pos c]; exact bd (app_ok hb) rfl
        · rw [if_neg c, if_neg c]
    · refine congrArg some (asc_extI filtB_lt z1 fun p => ?_)
      rw [filtB_mem, z2]
      constructor
      · rintro ⟨⟨p0, p1⟩, h⟩
        cases c : φ p with
        | none => rw [c] at h; cases h
        | some d =>
          rw [c] at h
          exact (e2 p p0 p1 r).mp ⟨d, c, (e3 p d p0 p1 c).1, of_decide_eq_true h⟩
      · intro h
        obtain ⟨p0, p1⟩ := ball_rng s0 s1 (fun p q h => nb_rng hs h) h
        obtain ⟨d, c, _, hd⟩ := (e2 p p0 p1 r).mpr h
        exact ⟨⟨p0, p1⟩, by rw [c]; exact decide_eq_true hd⟩
  · exact ball_rng s0 s1 (fun p q h => nb_rng hs h) ((z2 x).mp hx)
end
theorem zone_is {a b : List Int} : m_l_is_zone a b = some (decide (a = b)) := by
  unfold m_l_is_zone
  refine bd (x := decide (a = b)) (ift rfl (bd (x := ([] : List Int)) (forN_thru (f := m_l_is_zone_b1) (st := fun _ => []) rfl fun pre x suf e => rfl) (ift rfl rfl))) rfl
theorem thin2_ok {h : List Int} (hh : Hd h) {n : Int} {ls : List (Int × Int)} (hl : LanesU n ls) : ∃ ks h', m_l_thinned h ls = some (ks, h') ∧ LanesU n ks ∧ Hd h' := by
  unfold m_l_thinned
  obtain ⟨a, h1, e1, a0, a1, hh1⟩ := pick_ok hh (n := 4) (by decide) (by decide)
  refine bdP e1 ?_
  have pl : ∀ {pre suf : List (Int × Int)} {x}, ls = pre ++ x :: suf → pre.length ≤ 66 := fun {pre suf x} e => by have := congrArg List.length e; rw [List.length_append] at this; have := hl.2.2; omega
  by_cases c1 : a = 1
  · refine iftP (decide_eq_true c1) ?_
    obtain ⟨u, eu, u1⟩ := forN_ind (f := m_l_thinned_b1) (xs := ls) (s0 := ([] : List (Int × Int))) (fun pre t => t.Sublist pre) (List.Sublist.refl _) (fun pre x suf t e hp => by
      have := pl e; have := hp.length_le
      unfold m_l_thinned_b1
      by_cases c : x.2 = x.1 + 1
      · exact ⟨_, ift (decide_eq_true c) (bd (app_ok (xs := t) (lt_big (by omega))) rfl), hp.append (List.Sublist.refl _)⟩
      · exact ⟨_, iff' (decide_eq_false c) rfl, hp.trans (List.sublist_append_left _ _)⟩)
    exact bdP eu ⟨_, _, rfl, sub_lanes hl u1, hh1⟩
  refine iffP (decide_eq_false c1) ?_
  by_cases c2 : a = 2
  · refine iftP (decide_eq_true c2) ?_
    obtain ⟨u, eu, u1⟩ := forN_ind (f := m_l_thinned_b2) (xs := ls) (s0 := ([] : List (Int × Int))) (fun pre t => t.Sublist pre) (List.Sublist.refl _) (fun pre x suf t e hp => by
      have := pl e; have := hp.length_le
      unfold m_l_thinned_b2
      by_cases c : x.1 = x.2 / 2
      · exact ⟨_, ift (decide_eq_true c) (bd (app_ok (xs := t) (lt_big (by omega))) rfl), hp.append (List.Sublist.refl _)⟩
      · exact ⟨_, iff' (decide_eq_false c) rfl, hp.trans (List.sublist_append_left _ _)⟩)
    exact bdP eu ⟨_, _, rfl, sub_lanes hl u1, hh1⟩
  refine iffP (decide_eq_false c2) ?_
  by_cases c3 : a = 3
  · refine iftP (decide_eq_true c3) ?_
    obtain ⟨u, eu, u1, u2⟩ := forN_ind (f := m_l_thinned_b3) (xs := ls) (s0 := (([] : List (Int × Int)), h1)) (fun pre t => Hd t.2 ∧ t.1.Sublist pre) ⟨hh1, List.Sublist.refl _⟩ (fun pre x suf t e hp => by
      obtain ⟨t1, t2⟩ := hp
      have := pl e; have := t2.length_le
      obtain ⟨z, h5, e7, z0, z1, hh5⟩ := pick_ok t1 (n := 3) (by decide) (by decide)
      unfold m_l_thinned_b3
      by_cases c : z = 0
      · exact ⟨_, bd e7 (ift (decide_eq_true c) (bd (app_ok (xs := t.1) (lt_big (by omega))) rfl)), hh5, t2.append (List.Sublist.refl _)⟩
      · exact ⟨_, bd e7 (iff' (decide_eq_false c) rfl), hh5, t2.trans (List.sublist_append_left _ _)⟩)
    exact bdP eu ⟨_, _, rfl, sub_lanes hl u2, u1⟩
  exact iffP (decide_eq_false c3) ⟨_, _, rfl, hl, hh1⟩
theorem forR_keep {α σ ρ : Type} {f : σ → α → Option (ρ ⊕ σ)} (P : σ → Prop) : ∀ {xs : List α} {s : σ}, P s → (∀ s x, x ∈ xs → P s → ∃ s', f s x = some (.inr s') ∧ P s') → ∃ e, forR f s xs = some (.inr e) ∧ P e
  | [], s, h0, _ => ⟨s, rfl, h0⟩
  | x :: xs, s, h0, h => by
    obtain ⟨s', e, h1⟩ := h s x (List.mem_cons_self ..) h0
    obtain ⟨e2, h2, h3⟩ := forR_keep P (xs := xs) h1 fun s y hy => h s y (List.mem_cons_of_mem _ hy)
    exact ⟨e2, by rw [forR_step e]; exact h2, h3⟩
theorem law_true (s : List Int) (_ : s.length ≤ 63) : m_law s = some true := by
  unfold m_law
  obtain ⟨h0, e0, hh0⟩ := hand_ok s 0 (by decide)
  refine bd e0 ?_
  obtain ⟨a, h1, e1, a0, a1, hh1⟩ := pick_ok hh0 (n := 8) (by decide) (by decide)
  refine bd e1 ?_
  obtain ⟨m, em, mm⟩ := at_mem (xs := [(6 : Int), 6, 6, 6, 6, 6, 6, 12]) (i := a) a0 (by show a < 8; omega)
  refine bd em ?_
  have mr : 1 ≤ m ∧ m ≤ 12 := by simp at mm; omega
  obtain ⟨t, h2, e2, ht, hh2, _⟩ := sea_ok hh1 (n := m) mr.1 mr.2
  refine bd e2 ?_
  obtain ⟨h3, e3, hh3⟩ := hand_ok s 1 (by decide)
  refine bd e3 ?_
  obtain ⟨ks, h4, e4, hk, hh4⟩ := thin2_ok hh3 ht.2.1
  refine bd e4 ?_
  have hu : SeaOk (t.1, ks, t.2.2.1, t.2.2.2) := ⟨ht.1, hk, ht.2.2⟩
  refine bd (chart_ok ht) (bd (chart_ok hu) ?_)
  obtain ⟨h5, e5, hh5⟩ := hand_ok s 2 (by decide)
  refine bd e5 (bd (rngO_ok (by decide) (by decide) (by decide) (by decide)) ?_)
  have t1 := ht.1.1
  have t12 := ht.1.2.1
  obtain ⟨e, e6, _⟩ := forR_keep (f := m_law_b1 (t, h2) (ks, h4) (chS t) (chS (t.1, ks, t.2.2.1, t.2.2.2))) (xs := rng 0 3) (s := h5) Hd hh5 (fun h x _ hh => by
    unfold m_law_b1
    obtain ⟨st, h6, e6, s0, s1, hh6⟩ := pick_ok hh (n := (t.1.length : Int)) (by omega) (by omega)
    obtain ⟨b, h7, e7, b0, b1, hh7⟩ := pick_ok hh6 (n := 4) (by decide) (by decide)
    obtain ⟨pt, ept, mpt⟩ := at_mem (xs := [([42] : List Nat), [46], [42, 42, 46], [46, 46, 46, 46]]) (i := b) b0 (by show b < 4; omega)
    have hp : Pat pt := by
      simp only [List.mem_cons, List.not_mem_nil, or_false] at mpt
      rcases mpt with rfl | rfl | rfl | rfl <;> refine ⟨by decide, by decide, fun c hc => ?_⟩ <;> simp at hc <;> omega
    have in1 : ∀ x ∈ [(2 : Int), 0, 3, 1], m_law_b2 (t, h2) (ks, h4) (chS t) (chS (t.1, ks, t.2.2.1, t.2.2.2)) (st, h6) pt () x = some (.inr ()) := fun x hx => by
      have xr : 0 ≤ x ∧ x < 4 := by simp at hx; omega
      obtain ⟨r, rfl⟩ : ∃ r : Nat, x = (r : Int) := ⟨x.toNat, by omega⟩
      unfold m_law_b2
      refine bd (lit_ok hp s0 (by omega) xr.1 xr.2) ?_
      obtain ⟨Z1, y1, y2, y3⟩ := sight_ok ht s0 s1 (r := r) (by omega) pt
      obtain ⟨Z2, w1, w2, w3⟩ := sight_ok hu s0 s1 (r := r) (by omega) pt
      refine bd (x := true) ?_ (iff' rfl (iff' ?_ rfl))
      · unfold m_l_sights_hold
        refine bd (show at_ [t, (t.1, ks, t.2.2.1, t.2.2.2)] 1 = some (t.1, ks, t.2.2.1, t.2.2.2) from rfl) (bd w2 ?_)
        refine bd (show at_ [chS t, chS (t.1, ks, t.2.2.1, t.2.2.2)] 1 = some (chS (t.1, ks, t.2.2.1, t.2.2.2)) from rfl) (bd w1 (bd zone_is (iff' (by rw [decide_eq_true rfl]; rfl) ?_)))
        refine bd (show at_ [chS t, chS (t.1, ks, t.2.2.1, t.2.2.2)] 0 = some (chS t) from rfl) (bd y1 (bd (show at_ [t, (t.1, ks, t.2.2.1, t.2.2.2)] 0 = some t from rfl) (bd y2 (bd zone_is (iff' (by rw [decide_eq_true rfl]; rfl) ?_)))))
        refine bd (app_ok (lt_big (by omega))) (bd (show at_ [chS t, chS (t.1, ks, t.2.2.1, t.2.2.2)] 1 = some (chS (t.1, ks, t.2.2.1, t.2.2.2)) from rfl) (bd w1 (bd zone_is (by rw [decide_eq_true rfl]))))
      · simp
    refine ⟨h7, bd e6 (bd e7 (bd ept (bd (forR_all in1) rfl))), hh7⟩)
  exact bd e6 rfl


end Mi
namespace G
open PySem PySem.Spec PyProof.Rows L2
/-! ### what never changes, and how a heap changes -/
/-- the attribute that an __init__ sets last: an instance with it is whole and stays as it is -/
def lastF : List Str := ["joined", "fuel", "reach", "inside", "hops", "letters", "hours"]
def done (fs : List (Str × V)) : Bool := fs.any fun p => lastF.any fun q => decide (q = p.1)
def Froz : HO → Prop
  | .tup _ => True
  | .ins _ _ fs => done fs = true
  | .own _ => True
  | .frz _ _ => True
  | _ => False
/-- a thing that may be new: no cell stands there -/
def NCf : HO → Prop
  | .own _ => False
  | .ext _ => False
  | .ins _ _ _ => False
  | .frz _ _ => False
  | _ => True
def NCo (H H' : Hp) (b : Addr) : HO → Prop
  | .own y => ∃ C fs, H' y = some (.ins C b fs)
  | .ins C dx _ => H dx = none ∨ ∃ fs', H b = some (.ins C dx fs')
  | .ext φ => ∀ (h : Heap) (ob : Obj), φ h → h.get? b = some ob → ∀ v, ob.data ≠ .cell v
  | .frz _ u => NCf u
  | _ => True
structure Chg (M : List Addr) (H H' : Hp) : Prop where
  keep : ∀ b o, H b = some o → (b ∉ M ∨ Froz o) → H' b = some o
  dom : ∀ b, H' b = none → H b = none
  ins : ∀ a C dx fs, H a = some (.ins C dx fs) → ∃ fs', H' a = some (.ins C dx fs')
  new : ∀ b o, H' b = some o → H b = some o ∨ NCo H H' b o
theorem Chg.refl {M : List Addr} (H : Hp) : Chg M H H := ⟨fun _ _ h _ => h, fun _ h => h, fun _ _ _ fs h => ⟨fs, h⟩, fun _ _ h => .inl h⟩
theorem NCo.chg {H H1 H2 : Hp} {b : Addr} {o : HO} (n : NCo H H1 b o) (i : ∀ a C dx fs, H1 a = some (.ins C dx fs) → ∃ fs', H2 a = some (.ins C dx fs')) : NCo H H2 b o := by
  cases o with
  | own y => obtain ⟨C, fs, e⟩ := n; obtain ⟨fs', e'⟩ := i _ _ _ _ e; exact ⟨C, fs', e'⟩
  | _ => exact n
theorem new_trans {H H1 H2 : Hp} (ad : ∀ b, H1 b = none → H b = none) (ai : ∀ b o, H1 b = some o → H b = some o ∨ NCo H H1 b o) (bi : ∀ a C dx fs, H1 a = some (.ins C dx fs) → ∃ fs', H2 a = some (.ins C dx fs')) (bn : ∀ b o, H2 b = some o → H1 b = some o ∨ NCo H1 H2 b o) :
    ∀ b o, H2 b = some o → H b = some o ∨ NCo H H2 b o := fun b o h => by
  rcases bn b o h with e | n
  · exact (ai b o e).imp id fun n => n.chg bi
  · refine .inr ?_
    cases o with
    | ins C dx fs =>
      rcases n with n | ⟨fs', n⟩
      · exact .inl (ad _ n)
      · rcases ai _ _ n with e | m
        · exact .inr ⟨fs', e⟩
        · exact m
    | _ => exact n
theorem Chg.trans {M : List Addr} {H H1 H2 : Hp} (a : Chg M H H1) (b : Chg M H1 H2) : Chg M H H2 :=
  ⟨fun x o h d => b.keep x o (a.keep x o h d) d, fun x h => a.dom x (b.dom x h), fun x C dx fs h => by obtain ⟨fs', h'⟩ := a.ins x C dx fs h; exact b.ins x C dx fs' h', new_trans a.dom a.new b.ins b.new⟩
theorem Chg.mono {M N : List Addr} {H H' : Hp} (a : Chg M H H') (s : ∀ x ∈ M, x ∈ N) : Chg N H H' :=
  ⟨fun b o h d => a.keep b o h (d.imp (fun z y => z (s b y)) id), a.dom, a.ins, a.new⟩
theorem Chg.none {M : List Addr} {H H' : Hp} (a : Chg [] H H') : Chg M H H' := a.mono (fun x h => nomatch h)
theorem Chg.new' {M : List Addr} {H : Hp} {p : Addr} {o : HO} (np : H p = .none) (hn : NCo H (upd H p o) p o) : Chg M H (upd H p o) :=
  ⟨fun b u h _ => by rw [upd_ne (ne_of_none h np)]; exact h, fun b h => by
    by_cases e : b = p
    · subst e; exact np
    · rw [upd_ne e] at h; exact h, fun a C dx fs h => ⟨fs, by rw [upd_ne (ne_of_none h np)]; exact h⟩, fun b u h => by
    by_cases e : b = p
    · subst e; rw [upd_same] at h; cases h; exact .inr hn
    · rw [upd_ne e] at h; exact .inl h⟩
theorem Chg.lay {M : List Addr} {H : Hp} {p : Addr} {o : HO} (np : H p = .none) (hn : NCf o) : Chg M H (upd H p o) := Chg.new' np (by
  cases o <;> first | exact hn.elim | trivial)
theorem Chg.wr {H : Hp} {p : Addr} {o u : HO} (hp : H p = some u) (nf : ¬ Froz u) (hi : ∀ C dx fs, u = .ins C dx fs → ∃ fs', o = .ins C dx fs' := by intro _ _ _ z; cases z) (hn : NCo H (upd H p o) p o := by trivial) : Chg [p] H (upd H p o) :=
  ⟨fun b w h d => by
    have e : b ≠ p := by
      intro e; subst e
      rw [hp] at h; cases h
      rcases d with d | d
      · exact d (List.mem_singleton.mpr rfl)
      · exact nf d
    rw [upd_ne e]; exact h, fun b h => by
    by_cases e : b = p
    · subst e; rw [upd_same] at h; cases h
    · rw [upd_ne e] at h; exact h, fun a C dx fs h => by
    by_cases e : a = p
    · subst e
      rw [hp] at h; cases h
      obtain ⟨fs', rfl⟩ := hi _ _ _ rfl
      exact ⟨fs', upd_same⟩
    · exact ⟨fs, by rw [upd_ne e]; exact h⟩, fun b w h => by
    by_cases e : b = p
    · subst e; rw [upd_same] at h; cases h; exact .inr hn
    · rw [upd_ne e] at h; exact .inl h⟩
/-- what was made behind H0 may change -/
theorem Chg.loc {M N : List Addr} {H0 H H' : Hp} (a : Chg M H0 H) (b : Chg N H H') (fr : ∀ x ∈ N, H0 x = .none) : Chg M H0 H' :=
  ⟨fun x o h d => b.keep x o (a.keep x o h d) (.inl (fun z => by rw [fr x z] at h; cases h)), fun x h => a.dom x (b.dom x h), fun x C dx fs h => by obtain ⟨fs', h'⟩ := a.ins x C dx fs h; exact b.ins x C dx fs' h', new_trans a.dom a.new b.ins b.new⟩
/-- the part N of M, and what was made behind H0, may change -/
theorem Chg.join {M N : List Addr} {H0 H H' : Hp} (a : Chg M H0 H) (b : Chg N H H') (fr : ∀ x ∈ N, x ∈ M ∨ H0 x = .none) : Chg M H0 H' :=
  ⟨fun x o h d => b.keep x o (a.keep x o h d) (by
    rcases d with d | d
    · refine .inl (fun z => ?_)
      rcases fr x z with y | y
      · exact d y
      · rw [y] at h; cases h
    · exact .inr d), fun x h => a.dom x (b.dom x h), fun x C dx fs h => by obtain ⟨fs', h'⟩ := a.ins x C dx fs h; exact b.ins x C dx fs' h', new_trans a.dom a.new b.ins b.new⟩
theorem Chg.free {M : List Addr} {H H' : Hp} (a : Chg M H H') {p : Addr} (np : H' p = .none) : H p = .none := a.dom p np
/-! ### kinds of data -/
structure Ty (α : Type) where
  rep : PySem.W.Frag → Hp → List Addr → V → α → Prop
  keep : ∀ {K : PySem.W.Frag} {H H' : Hp} {F : List Addr} {v : V} {d : α}, rep K H F v d → (∀ b o, H b = some o → (b ∈ F ∨ Froz o) → H' b = some o) → rep K H' F v d
  dom : ∀ {K : PySem.W.Frag} {H : Hp} {F : List Addr} {v : V} {d : α}, rep K H F v d → ∀ b ∈ F, ∃ o, H b = some o ∧ ¬ Froz o
/-- a and b have nothing in common -/
def Dj (F G : List Addr) : Prop := ∀ a ∈ F, a ∉ G
theorem Dj.symm {F G : List Addr} (d : Dj F G) : Dj G F := fun a h z => d a z h
theorem Dj.nil {F : List Addr} : Dj [] F := fun a h => nomatch h
theorem Dj.nilR {F : List Addr} : Dj F [] := fun a h z => nomatch z
section
variable {α β : Type} {τ : Ty α} {υ : Ty β} {K : PySem.W.Frag} {H H' : Hp} {F G M : List Addr} {v u : V} {d : α} {p : Addr}
theorem Ty.chg (r : τ.rep K H F v d) (c : Chg M H H') (dj : Dj F M) : τ.rep K H' F v d :=
  τ.keep r fun b o h z => c.keep b o h (z.imp (fun y => dj b y) id)
theorem Ty.ex (r : τ.rep K H F v d) (c : Chg [] H H') : τ.rep K H' F v d := Ty.chg r c Dj.nilR
theorem Ty.fz (r : τ.rep K H [] v d) (c : Chg M H H') : τ.rep K H' [] v d := Ty.chg r c Dj.nil
theorem Ty.nin (r : τ.rep K H F v d) (np : H p = none) : Dj F [p] := fun a h z => by
  rw [List.mem_singleton] at z; subst z
  obtain ⟨o, e, _⟩ := τ.dom r a h
  rw [np] at e; cases e
theorem Ty.fresh (r : τ.rep K H F v d) (np : ∀ a ∈ G, H a = none) : Dj F G := fun a h z => by
  obtain ⟨o, e, _⟩ := τ.dom r a h
  rw [np a z] at e; cases e
end
theorem one_fresh {H : Hp} {p : Addr} (np : H p = none) : ∀ a ∈ [p], H a = none := fun a h => by
  rw [List.mem_singleton] at h; subst h; exact np
/-! ### flat data -/
def yInt : Ty Int := ⟨fun _ _ F v d => F = [] ∧ v = .int d, fun h _ => h, fun h b m => by rw [h.1] at m; cases m⟩
def yBool : Ty Bool := ⟨fun _ _ F v d => F = [] ∧ v = .bl d, fun h _ => h, fun h b m => by rw [h.1] at m; cases m⟩
def toS (l : List Nat) : Str := ⟨l.toArray⟩
def yStr : Ty (List Nat) := ⟨fun _ _ F v d => F = [] ∧ v = .str (toS d), fun h _ => h, fun h b m => by rw [h.1] at m; cases m⟩
def yNon : Ty Unit := ⟨fun _ _ F v _ => F = [] ∧ v = .non, fun h _ => h, fun h b m => by rw [h.1] at m; cases m⟩
theorem yInt_i {K : PySem.W.Frag} {H : Hp} {i : Int} : yInt.rep K H [] (.int i) i := ⟨rfl, rfl⟩
theorem yBool_i {K : PySem.W.Frag} {H : Hp} {i : Bool} : yBool.rep K H [] (.bl i) i := ⟨rfl, rfl⟩
theorem yStr_i {K : PySem.W.Frag} {H : Hp} {i : List Nat} : yStr.rep K H [] (.str (toS i)) i := ⟨rfl, rfl⟩
theorem yNon_i {K : PySem.W.Frag} {H : Hp} : yNon.rep K H [] .non () := ⟨rfl, rfl⟩
/-- None or data -/
def yOpt {α : Type} (τ : Ty α) : Ty (Option α) where
  rep K H F v d := match d with
    | none => F = [] ∧ v = .non
    | some x => v ≠ .non ∧ τ.rep K H F v x
  keep {K H H' F v d} h k := by
    cases d with
    | none => exact h
    | some x => exact ⟨h.1, τ.keep h.2 k⟩
  dom {K H F v d} h b m := by
    cases d with
    | none => rw [h.1] at m; cases m
    | some x => exact τ.dom h.2 b m
/-- a list whose items never change -/
def yLst {α : Type} (τ : Ty α) : Ty (List α) where
  rep K H F v xs := ∃ a vs, v = .ref a ∧ F = [a] ∧ H a = some (.lst vs) ∧ Paired (fun u x => τ.rep K H [] u x) vs xs
  keep {K H H' F v xs} h k := by
    obtain ⟨a, vs, e, f, g, r⟩ := h
    subst f
    exact ⟨a, vs, e, rfl, k a _ g (.inl (List.mem_singleton.mpr rfl)), Paired.mapP r fun u x q => τ.keep q fun b o hb z => k b o hb (z.elim (fun y => nomatch y) .inr)⟩
  dom {K H F v xs} h b m := by
    obtain ⟨a, vs, e, f, g, r⟩ := h
    subst f
    rw [List.mem_singleton] at m; subst m
    exact ⟨_, g, fun z => z⟩
theorem SqT.keeps {K : PySem.W.Frag} {H H' : Hp} {a : Addr} {vs : List V} (s : SqT K H a vs) (k : ∀ b o, H b = some o → Froz o → H' b = some o) : SqT K H' a vs := by
  rcases s with (s | ⟨o, s⟩) | s
  · exact .inl (.inl (k _ _ s trivial))
  · exact .inl (.inr ⟨o, k _ _ s trivial⟩)
  · exact .inr s
/-- the items of a tuple -/
structure Tys (α : Type) where
  rep : PySem.W.Frag → Hp → List Addr → List V → α → Prop
  keep : ∀ {K : PySem.W.Frag} {H H' : Hp} {F : List Addr} {v : List V} {d : α}, rep K H F v d → (∀ b o, H b = some o → (b ∈ F ∨ Froz o) → H' b = some o) → rep K H' F v d
  dom : ∀ {K : PySem.W.Frag} {H : Hp} {F : List Addr} {v : List V} {d : α}, rep K H F v d → ∀ b ∈ F, ∃ o, H b = some o ∧ ¬ Froz o
def sOne {α : Type} (τ : Ty α) : Tys α where
  rep K H F vs x := ∃ v, vs = [v] ∧ τ.rep K H F v x
  keep h k := by obtain ⟨v, e, r⟩ := h; exact ⟨v, e, τ.keep r k⟩
  dom h b m := by obtain ⟨v, e, r⟩ := h; exact τ.dom r b m
def sCons {α β : Type} (τ : Ty α) (ts : Tys β) : Tys (α × β) where
  rep K H F vs x := ∃ v ws F1 F2, vs = v :: ws ∧ F = F1 ++ F2 ∧ τ.rep K H F1 v x.1 ∧ ts.rep K H F2 ws x.2
  keep {K H H' F v d} h k := by
    obtain ⟨v, ws, F1, F2, e, f, r, q⟩ := h
    subst f
    exact ⟨v, ws, F1, F2, e, rfl, τ.keep r fun b o hb z => k b o hb (z.imp (fun y => List.mem_append_left _ y) id), ts.keep q fun b o hb z => k b o hb (z.imp (fun y => List.mem_append_right _ y) id)⟩
  dom {K H F v d} h b m := by
    obtain ⟨v, ws, F1, F2, e, f, r, q⟩ := h
    subst f
    rcases List.mem_append.mp m with m | m
    · exact τ.dom r b m
    · exact ts.dom q b m
def yTup {α : Type} (ts : Tys α) : Ty α where
  rep K H F v d := ∃ a vs, v = .ref a ∧ SqT K H a vs ∧ ts.rep K H F vs d
  keep h k := by
    obtain ⟨a, vs, e, s, r⟩ := h
    exact ⟨a, vs, e, SqT.keeps s fun b o hb z => k b o hb (.inr z), ts.keep r k⟩
  dom h b m := by obtain ⟨a, vs, e, s, r⟩ := h; exact ts.dom r b m
/-- a tuple of any number of things of one kind that never change -/
def yTupL {α : Type} (τ : Ty α) : Ty (List α) where
  rep K H F v xs := ∃ a vs, v = .ref a ∧ F = [] ∧ SqT K H a vs ∧ Paired (fun u x => τ.rep K H [] u x) vs xs
  keep {K H H' F v xs} h k := by
    obtain ⟨a, vs, e, f, g, r⟩ := h
    exact ⟨a, vs, e, f, SqT.keeps g fun b o hb z => k b o hb (.inr z), Paired.mapP r fun u x q => τ.keep q fun b o hb z => k b o hb (z.elim (fun y => nomatch y) .inr)⟩
  dom {K H F v xs} h b m := by
    obtain ⟨a, vs, e, f, g, r⟩ := h
    rw [f] at m; cases m
/-- the script -/
def yScr : Ty (List Int) where
  rep K H F v xs := F = [] ∧ ∃ a, v = .ref a ∧ ∀ H', (∀ b o, H b = some o → Froz o → H' b = some o) → SqL K H' a (xs.map V.int)
  keep {K H H' F v xs} h k := by
    obtain ⟨f, a, e, g⟩ := h
    exact ⟨f, a, e, fun H2 k2 => g H2 fun b o hb z => k2 b o (k b o hb (.inr z)) z⟩
  dom {K H F v xs} h b m := by
    rw [h.1] at m; cases m
theorem yScr_of {K : PySem.W.Frag} {H : Hp} {a : Addr} {ns : List Int} (o : Only H) (s : SqL K H a (ns.map V.int)) : yScr.rep K H [] (.ref a) ns := by
  refine ⟨rfl, a, rfl, fun H' k => ?_⟩
  rcases s with (s | ⟨ob, s⟩) | s
  · rcases o a with z | ⟨_, _, z⟩
    · rw [z] at s; cases s
    · rw [z] at s; cases s
  · exact .inl (.inr ⟨ob, k _ _ s trivial⟩)
  · exact .inr s
end G

namespace G
open PySem PySem.Spec PyProof.Rows L2
theorem at_eq {α : Type} (xs : List α) (i : Int) : L2.atI xs i = Mi.at_ xs i := rfl
theorem ixN_eq (n : Nat) (i : Int) : L2.ixN n i = Mi.ixN n i := rfl
theorem line_big : Mi.big ≤ sizeLine := by rw [sizeLine_eq]; decide
section paired
variable {α β γ : Type} {R : α → β → Prop}
theorem pr_len {xs : List α} {ys : List β} (r : Paired R xs ys) : xs.length = ys.length := Paired.length r
theorem pr_get : ∀ {xs : List α} {ys : List β} {j : Nat} {y : β}, Paired R xs ys → ys[j]? = some y → ∃ x, xs[j]? = some x ∧ R x y
  | _, _, _, _, .nil, e => by simp at e
  | _, _, 0, _, .cons r _, e => by simp at e; subst e; exact ⟨_, rfl, r⟩
  | _, _, j + 1, y, .cons _ t, e => by
    obtain ⟨u, h1, h2⟩ := pr_get (j := j) (y := y) t (by simpa using e)
    exact ⟨u, by simpa using h1, h2⟩
theorem pr_getL : ∀ {xs : List α} {ys : List β} {j : Nat} {x : α}, Paired R xs ys → xs[j]? = some x → ∃ y, ys[j]? = some y ∧ R x y
  | _, _, _, _, .nil, e => by simp at e
  | _, _, 0, _, .cons r _, e => by simp at e; subst e; exact ⟨_, rfl, r⟩
  | _, _, j + 1, y, .cons _ t, e => by
    obtain ⟨u, h1, h2⟩ := pr_getL (j := j) (x := y) t (by simpa using e)
    exact ⟨u, by simpa using h1, h2⟩
theorem pr_set {x : α} {y : β} (r : R x y) : ∀ {xs : List α} {ys : List β} (i : Nat), Paired R xs ys → Paired R (xs.set i x) (ys.set i y)
  | _, _, _, .nil => .nil
  | _, _, 0, .cons _ t => .cons r t
  | _, _, i + 1, .cons q t => .cons q (pr_set r i t)
theorem pr_app : ∀ {xs zs : List α} {ys ws : List β}, Paired R xs ys → Paired R zs ws → Paired R (xs ++ zs) (ys ++ ws)
  | _, _, _, _, .nil, s => s
  | _, _, _, _, .cons r t, s => .cons r (pr_app t s)
theorem pr_take : ∀ {xs : List α} {ys : List β} (n : Nat), Paired R xs ys → Paired R (xs.take n) (ys.take n)
  | _, _, 0, _ => .nil
  | _, _, _ + 1, .nil => .nil
  | _, _, n + 1, .cons r t => .cons r (pr_take n t)
theorem pr_drop : ∀ {xs : List α} {ys : List β} (n : Nat), Paired R xs ys → Paired R (xs.drop n) (ys.drop n)
  | _, _, 0, r => r
  | _, _, _ + 1, .nil => .nil
  | _, _, n + 1, .cons _ t => pr_drop n t
theorem pr_at {xs : List α} {ys : List β} {i : Int} {y : β} (r : Paired R xs ys) (h : Mi.at_ ys i = some y) : ∃ x, L2.atI xs i = some x ∧ R x y := by
  rw [at_eq]
  unfold Mi.at_ at h ⊢
  rw [pr_len r]
  obtain ⟨j, e, h⟩ := Mi.bnd h
  obtain ⟨x, e2, q⟩ := pr_get r h
  exact ⟨x, by rw [e]; exact e2, q⟩
theorem pr_map (f : β → α) (h : ∀ b, R (f b) b) : ∀ ys : List β, Paired R (ys.map f) ys
  | [] => .nil
  | y :: ys => .cons (h y) (pr_map f h ys)
theorem pr_of_map (f : β → α) (h : ∀ a b, R a b → a = f b) : ∀ {xs : List α} {ys : List β}, Paired R xs ys → xs = ys.map f
  | _, _, .nil => rfl
  | _, _, .cons r t => by rw [h _ _ r, pr_of_map f h t]; rfl
end paired
theorem ints_of {K : PySem.W.Frag} {H : Hp} {vs : List V} {ns : List Int} (r : Paired (fun u x => yInt.rep K H [] u x) vs ns) : vs = ns.map V.int := pr_of_map V.int (fun _ _ q => q.2) r
theorem ints_mk {K : PySem.W.Frag} {H : Hp} (ns : List Int) : Paired (fun u x => yInt.rep K H [] u x) (ns.map V.int) ns := pr_map V.int (fun _ => ⟨rfl, rfl⟩) ns
/-! ### values without a change of the heap -/
section vals
variable {K : PySem.W.Frag} {σ : L2.St} {H : Hp} {F : List Addr} {ta tb te : TE} {v u x y : V} {i j : Int} {t : TT} {b c : Bool} {α β : Type} {τ : Ty α}
theorem val_I0 {g : Int → Int → V} (ha : Val ta σ H (.int i)) (hb : Val tb σ H (.int j)) : Val (tOp (rI0 g) ta tb) σ H (g i j) := val_op ha hb fun Q q => ⟨i, j, rfl, rfl, q⟩
theorem val_I {C : Int → Int → Prop} {g : Int → Int → V} (ha : Val ta σ H (.int i)) (hb : Val tb σ H (.int j)) (hc : C i j) : Val (tOp (rI C g) ta tb) σ H (g i j) := val_op ha hb fun Q q => ⟨i, j, rfl, rfl, hc, q⟩
theorem val_U {g : Int → V} (ha : Val ta σ H (.int i)) : Val (tUn (rU g) ta) σ H (g i) := fun Q q => ha _ ⟨i, rfl, q⟩
theorem dI {i j : Int} : decide (V.int i = V.int j) = decide (i = j) := by
  by_cases e : i = j
  · subst e; simp
  · rw [decide_eq_false e, decide_eq_false (fun q => e (V.int.inj q))]
theorem dB {i j : Bool} : decide (V.bl i = V.bl j) = decide (i = j) := by
  by_cases e : i = j
  · subst e; simp
  · rw [decide_eq_false e, decide_eq_false (fun q => e (V.bl.inj q))]
theorem dS {i j : Str} : decide (V.str i = V.str j) = decide (i = j) := by
  by_cases e : i = j
  · subst e; simp
  · rw [decide_eq_false e, decide_eq_false (fun q => e (V.str.inj q))]
theorem val_eqI (ha : Val ta σ H (.int i)) (hb : Val tb σ H (.int j)) : Val (tOp rEq ta tb) σ H (.bl (decide (i = j))) := val_op ha hb fun Q q => ⟨rfl, by rw [dI]; exact q⟩
theorem val_neI (ha : Val ta σ H (.int i)) (hb : Val tb σ H (.int j)) : Val (tOp rNe ta tb) σ H (.bl (!decide (i = j))) := val_op ha hb fun Q q => ⟨rfl, by rw [dI]; exact q⟩
theorem val_eqB (ha : Val ta σ H (.bl b)) (hb : Val tb σ H (.bl c)) : Val (tOp rEq ta tb) σ H (.bl (decide (b = c))) := val_op ha hb fun Q q => ⟨rfl, by rw [dB]; exact q⟩
theorem val_neB (ha : Val ta σ H (.bl b)) (hb : Val tb σ H (.bl c)) : Val (tOp rNe ta tb) σ H (.bl (!decide (b = c))) := val_op ha hb fun Q q => ⟨rfl, by rw [dB]; exact q⟩
theorem val_is {w : V} (h : Val te σ H v) (e : v = w) : Val te σ H w := e ▸ h
theorem ans_is (h : Ans t σ H b) (e : b = c) : Ans t σ H c := e ▸ h
theorem mulC {i j r : Int} (h : Mi.mul i j = some r) : CMul i j ∧ i * j = r := by
  unfold Mi.mul at h
  split at h
  · exact ⟨by assumption, Option.some.inj h⟩
  · cases h
theorem modC {i j r : Int} (h : Mi.mod i j = some r) : 0 < j ∧ i % j = r := by
  unfold Mi.mod at h
  split at h
  · exact ⟨by assumption, Option.some.inj h⟩
  · cases h
theorem divC {i j r : Int} (h : Mi.fdiv i j = some r) : CDivW i j ∧ i / j = r := by
  unfold Mi.fdiv at h
  split at h
  · rename_i hc
    refine ⟨wide_div (b := 200) hc.1 ?_ (by decide) (by decide), Option.some.inj h⟩
    omega
  · cases h
theorem val_mul {r : Int} (ha : Val ta σ H (.int i)) (hb : Val tb σ H (.int j)) (h : Mi.mul i j = some r) : Val (tOp (rI CMul fun i j => .int (i * j)) ta tb) σ H (.int r) := val_is (val_I ha hb (mulC h).1) (by rw [(mulC h).2])
theorem val_mod {r : Int} (ha : Val ta σ H (.int i)) (hb : Val tb σ H (.int j)) (h : Mi.mod i j = some r) : Val (tOp (rI (fun _ j => 0 < j) fun i j => .int (i % j)) ta tb) σ H (.int r) := val_is (val_I ha hb (modC h).1) (by rw [(modC h).2])
theorem val_fdiv {r : Int} (ha : Val ta σ H (.int i)) (hb : Val tb σ H (.int j)) (h : Mi.fdiv i j = some r) : Val (tOp (rI CDivW fun i j => .int (i / j)) ta tb) σ H (.int r) := val_is (val_I ha hb (divC h).1) (by rw [(divC h).2])
theorem ans_t (h : Val te σ H (.bl b)) : Ans (tTest te) σ H b := fun Q q => h _ ⟨b, rfl, q⟩
/-- int(n) -/
def rInt1 : List V → Hp → VK → Prop := fun xs H Q => (∃ i, xs = [.int i] ∧ Q (.int i) H) ∨ ∃ k, xs = [.bl k] ∧ Q (.int (if k then 1 else 0)) H
theorem cl_int {X : Cx} : CallR X (.type "int") rInt1 := call_int1
theorem val_int (ha : Val ta σ H (.int i)) : Val (tCB rInt1 (tCons ta tNil)) σ H (.int i) := fun Q q => ha _ (.inl ⟨i, rfl, q⟩)
def rMax2 : List V → Hp → VK → Prop := fun xs H Q => ∃ i j, xs = [.int i, .int j] ∧ Q (.int (if j > i then j else i)) H
def rMin2 : List V → Hp → VK → Prop := fun xs H Q => ∃ i j, xs = [.int i, .int j] ∧ Q (.int (if j < i then j else i)) H
theorem cl_max2 {X : Cx} (hc : X.calm = true) : CallR X (.builtin "max") rMax2 := call_max2 hc
theorem cl_min2 {X : Cx} (hc : X.calm = true) : CallR X (.builtin "min") rMin2 := call_min2 hc
theorem val_max2 (ha : Val ta σ H (.int i)) (hb : Val tb σ H (.int j)) : Val (tCB rMax2 (tCons ta (tCons tb tNil))) σ H (.int (max i j)) := fun Q q => ha _ (hb _ ⟨i, j, rfl, by
  have e : (if j > i then j else i) = max i j := by split <;> omega
  rw [e]; exact q⟩)
theorem val_min2 (ha : Val ta σ H (.int i)) (hb : Val tb σ H (.int j)) : Val (tCB rMin2 (tCons ta (tCons tb tNil))) σ H (.int (min i j)) := fun Q q => ha _ (hb _ ⟨i, j, rfl, by
  have e : (if j < i then j else i) = min i j := by split <;> omega
  rw [e]; exact q⟩)
/-- len of a list or tuple -/
def rLenQ (K : PySem.W.Frag) : List V → Hp → VK → Prop := fun xs H Q => ∃ p ys, xs = [.ref p] ∧ (SqL K H p ys ∨ SqT K H p ys) ∧ Q (.int ys.length) H
theorem cl_len {X : Cx} {K : PySem.W.Frag} (e : X.K = K := by rfl) : CallR X (.builtin "len") (rLenQ K) := by subst e; exact call_len_seq
theorem lst_sq {xs : List α} (r : (yLst τ).rep K H F v xs) : ∃ a vs, v = .ref a ∧ SqL K H a vs ∧ Paired (fun u x => τ.rep K H [] u x) vs xs := by
  obtain ⟨a, vs, e, f, g, q⟩ := r
  exact ⟨a, vs, e, .inl (.inl g), q⟩
theorem tupl_sq {xs : List α} (r : (yTupL τ).rep K H F v xs) : ∃ a vs, v = .ref a ∧ SqT K H a vs ∧ Paired (fun u x => τ.rep K H [] u x) vs xs := by
  obtain ⟨a, vs, e, f, g, q⟩ := r
  exact ⟨a, vs, e, g, q⟩
theorem scr_sq {xs : List Int} (r : yScr.rep K H F v xs) : ∃ a vs, v = .ref a ∧ SqL K H a vs ∧ Paired (fun u x => yInt.rep K H [] u x) vs xs := by
  obtain ⟨f, a, e, g⟩ := r
  exact ⟨a, _, e, g H fun _ _ h _ => h, ints_mk xs⟩
theorem val_lenL {xs : List α} (r : (yLst τ).rep K H F v xs) (ha : Val ta σ H v) : Val (tCB (rLenQ K) (tCons ta tNil)) σ H (.int (xs.length : Int)) := by
  obtain ⟨a, vs, e, s, q⟩ := lst_sq r
  subst e
  exact fun Q k => ha _ ⟨a, vs, rfl, .inl s, by rw [pr_len q]; exact k⟩
theorem val_lenT {xs : List α} (r : (yTupL τ).rep K H F v xs) (ha : Val ta σ H v) : Val (tCB (rLenQ K) (tCons ta tNil)) σ H (.int (xs.length : Int)) := by
  obtain ⟨a, vs, e, s, q⟩ := tupl_sq r
  subst e
  exact fun Q k => ha _ ⟨a, vs, rfl, .inr s, by rw [pr_len q]; exact k⟩
theorem val_lenS {xs : List Int} (r : yScr.rep K H F v xs) (ha : Val ta σ H v) : Val (tCB (rLenQ K) (tCons ta tNil)) σ H (.int (xs.length : Int)) := by
  obtain ⟨a, vs, e, s, q⟩ := scr_sq r
  subst e
  exact fun Q k => ha _ ⟨a, vs, rfl, .inl s, by rw [pr_len q]; exact k⟩
/-- items -/
theorem ix_l {X : Cx} {K : PySem.W.Frag} (e : X.K = K := by rfl) : IxR X (rIxL K) := by subst e; exact ix_list
theorem ix_t {X : Cx} {K : PySem.W.Frag} (e : X.K = K := by rfl) : IxR X (rIxT K) := by subst e; exact ix_tup
/-- the item's own value, by its data -/
theorem itm_L {xs : List α} {x : α} (r : (yLst τ).rep K H F v xs) (h : Mi.at_ xs i = some x) :
    ∃ u, τ.rep K H [] u x ∧ ∀ {σ : L2.St} {ta tb : TE}, Val ta σ H v → Val tb σ H (.int i) → Val (tOp (rIxL K) ta tb) σ H u := by
  obtain ⟨a, vs, e, s, q⟩ := lst_sq r
  subst e
  obtain ⟨u, e, ru⟩ := pr_at q h
  exact ⟨u, ru, fun ha hb => val_op ha hb fun Q k => ⟨a, vs, i, u, rfl, rfl, s, e, k⟩⟩
theorem itm_T {xs : List α} {x : α} (r : (yTupL τ).rep K H F v xs) (h : Mi.at_ xs i = some x) :
    ∃ u, τ.rep K H [] u x ∧ ∀ {σ : L2.St} {ta tb : TE}, Val ta σ H v → Val tb σ H (.int i) → Val (tOp (rIxT K) ta tb) σ H u := by
  obtain ⟨a, vs, e, s, q⟩ := tupl_sq r
  subst e
  obtain ⟨u, e, ru⟩ := pr_at q h
  exact ⟨u, ru, fun ha hb => val_op ha hb fun Q k => ⟨a, vs, i, u, rfl, rfl, s, e, k⟩⟩
theorem itm_S {xs : List Int} {x : Int} (r : yScr.rep K H F v xs) (h : Mi.at_ xs i = some x) {σ : L2.St} {ta tb : TE} (ha : Val ta σ H v) (hb : Val tb σ H (.int i)) : Val (tOp (rIxL K) ta tb) σ H (.int x) := by
  obtain ⟨a, vs, e, s, q⟩ := scr_sq r
  subst e
  obtain ⟨u, e, ru⟩ := pr_at q h
  obtain ⟨_, rfl⟩ := ru
  exact val_op ha hb fun Q k => ⟨a, vs, i, _, rfl, rfl, s, e, k⟩
/-- ints in lists -/
theorem itm_LI {xs : List Int} {x : Int} (r : (yLst yInt).rep K H F v xs) (h : Mi.at_ xs i = some x) {σ : L2.St} {ta tb : TE} (ha : Val ta σ H v) (hb : Val tb σ H (.int i)) : Val (tOp (rIxL K) ta tb) σ H (.int x) := by
  obtain ⟨u, ⟨_, rfl⟩, k⟩ := itm_L r h
  exact k ha hb
theorem itm_TI {xs : List Int} {x : Int} (r : (yTupL yInt).rep K H F v xs) (h : Mi.at_ xs i = some x) {σ : L2.St} {ta tb : TE} (ha : Val ta σ H v) (hb : Val tb σ H (.int i)) : Val (tOp (rIxT K) ta tb) σ H (.int x) := by
  obtain ⟨u, ⟨_, rfl⟩, k⟩ := itm_T r h
  exact k ha hb
/-! ### isinstance -/
theorem cl_isi {X : Cx} {K : PySem.W.Frag} (e : X.K = K := by rfl) : CallR X (.builtin "isinstance") (rIsi K) := by subst e; exact call_isi
theorem val_isi {n m : String} {b : Bool} (ha : Val ta σ H v) (ht : TyX K H v (.type n)) (h : kitB n m = some b) : Val (tCB (rIsi K) (tCons ta (tCons (tC (.ty m)) tNil))) σ H (.bl b) := fun Q q =>
  ha _ ⟨v, .ty m, .type n, .type m, b, rfl, .ty m, ht, kit_ty h, q⟩
theorem ty_int : TyX K H (.int i) (.type "int") := .base (.int i)
theorem ty_bl : TyX K H (.bl b) (.type "bool") := .base (.bl b)
theorem ty_str {s : Str} : TyX K H (.str s) (.type "str") := .base (.str s)
theorem ty_non : TyX K H .non (.type "NoneType") := .base .non
theorem ty_lst {xs : List α} (r : (yLst τ).rep K H F v xs) : TyX K H v (.type "list") := by
  obtain ⟨a, vs, rfl, f, g, q⟩ := r
  exact .base (.lst g)
theorem ty_sqt {a : Addr} {vs : List V} (s : SqT K H a vs) : TyX K H (.ref a) (.type "tuple") := by
  rcases s with (s | ⟨o, s⟩) | ⟨o, its, n, e, c, _⟩
  · exact .base (.tup s)
  · exact .fTuple s
  · exact .kTuple e c
theorem ty_tupl {xs : List α} (r : (yTupL τ).rep K H F v xs) : TyX K H v (.type "tuple") := by
  obtain ⟨a, vs, rfl, s, q⟩ := tupl_sq r
  exact ty_sqt s
theorem ty_tup {ts : Tys α} {d : α} (r : (yTup ts).rep K H F v d) : TyX K H v (.type "tuple") := by
  obtain ⟨a, vs, rfl, s, q⟩ := r
  exact ty_sqt s
end vals
/-! ### going on behind an expression -/
section cps
variable {K : PySem.W.Frag} {σ σ' : L2.St} {H : Hp} {F : List Addr} {ta tb te : TE} {v u x y : V} {i j : Int} {t : TT} {b c : Bool} {α β : Type} {τ : Ty α} {Q : VK} {D : Ends} {t1 t2 : TS}
theorem c_val (h : Val te σ H v) (k : Q v H) : te σ H Q := h Q k
theorem c_ans {Q : Bool → Hp → Prop} (h : Ans t σ H b) (k : Q b H) : t σ H Q := h Q k
theorem c_if {A B : Prop} (h1 : b = true → A) (h2 : b = false → B) : if b = true then A else B := by
  cases b with
  | true => exact iteT (h1 rfl)
  | false => exact iteF (h2 rfl)
theorem s_if (h : Ans t σ H b) (h1 : b = true → t1 D σ H) (h2 : b = false → t2 D σ H) : tIfS t t1 t2 D σ H := h _ (c_if h1 h2)
/-- x = e -/
theorem s_set {i : Nat} (h : Val te σ H v) (e : σ.set i (some v) = σ') (k : D.nx σ' H) : tAsg te (gName i) D σ H := h _ (by show D.nx (σ.set i (some v)) H; rw [e]; exact k)
theorem s_setI {i : Nat} {n m : Int} (h : Val te σ H (.int n)) (en : n = m) (e : σ.set i (some (.int m)) = σ') (k : D.nx σ' H) : tAsg te (gName i) D σ H := s_set (v := .int m) (en ▸ h) e k
theorem s_seq (h : t1 { D with nx := t2 D } σ H) : tSeq t1 t2 D σ H := h
/-- a join: R is what holds where the ways come together -/
theorem s_join {R : L2.St → Hp → Prop} (w : ∀ nx : L2.St → Hp → Prop, (∀ σ' H', R σ' H' → nx σ' H') → t1 { D with nx := nx } σ H) (k : ∀ σ' H', R σ' H' → t2 D σ' H') : tSeq t1 t2 D σ H := w _ k
theorem g_name {i : Nat} {Q : L2.St → Hp → Prop} (e : σ.set i (some v) = σ') (k : Q σ' H) : gName i v σ H Q := by show Q (σ.set i (some v)) H; rw [e]; exact k
theorem g_nameI {i : Nat} {n m : Int} {Q : L2.St → Hp → Prop} (en : n = m) (e : σ.set i (some (.int m)) = σ') (k : Q σ' H) : gName i (.int n) σ H Q := g_name (v := .int n) (by rw [en]; exact e) k
/-- a list, a tuple is made -/
theorem sz {n : Nat} (h : n ≤ Mi.big) : n ≤ sizeLine := Nat.le_trans h line_big
theorem c_lst {ts : TA} (h : ts σ H fun xs H1 => xs.length ≤ Mi.big ∧ ∀ p, H1 p = none → Q (.ref p) (upd H1 p (.lst xs))) (mono : ∀ Q Q' : List V → Hp → Prop, (∀ xs H1, Q xs H1 → Q' xs H1) → ts σ H Q → ts σ H Q') : L2.tLst ts σ H Q := mono _ _ (fun xs H1 z => ⟨sz z.1, z.2⟩) h
/-- values of arguments -/
def VaA (t : TA) (σ : L2.St) (H : Hp) (vs : List V) : Prop := ∀ Q : List V → Hp → Prop, Q vs H → t σ H Q
theorem va_nil : VaA tNil σ H [] := fun Q q => q
theorem va_cons {tr : TA} {vs : List V} (h : Val ta σ H v) (r : VaA tr σ H vs) : VaA (tCons ta tr) σ H (v :: vs) := fun Q q => h _ (r _ q)
theorem n_lst {ts : TA} {vs : List V} {xs : List α} (h : VaA ts σ H vs) (z : vs.length ≤ Mi.big) (r : Paired (fun u x => τ.rep K H [] u x) vs xs)
    (k : ∀ p H', H p = none → Chg [] H H' → (yLst τ).rep K H' [p] (.ref p) xs → Q (.ref p) H') : L2.tLst ts σ H Q := h _ ⟨sz z, fun p np => k p _ np (Chg.lay np trivial)
      ⟨p, vs, rfl, rfl, upd_same, Paired.mapP r fun u x q => Ty.ex q (Chg.lay np trivial)⟩⟩
theorem n_tup {ts : TA} {ty : Tys α} {vs : List V} {d : α} {F : List Addr} (h : VaA ts σ H vs) (z : vs.length ≤ Mi.big) (r : ty.rep K H F vs d)
    (k : ∀ p H', H p = none → Chg [] H H' → (yTup ty).rep K H' F (.ref p) d → Q (.ref p) H') : L2.tTup ts σ H Q := h _ ⟨sz z, fun p np => k p _ np (Chg.lay np trivial)
      ⟨p, vs, rfl, .inl (.inl upd_same), ty.keep r fun b o e _ => by rw [upd_ne (ne_of_none e np)]; exact e⟩⟩
/-- xs.append(e) -/
theorem m_app {xs ys : List α} {d : α} (r : (yLst τ).rep K H F v xs) (ru : τ.rep K H [] u d) (hm : Mi.app xs d = some ys) (k : ∀ H', Chg F H H' → (yLst τ).rep K H' F v ys → Q .non H') : rAppend v [u] H Q := by
  obtain ⟨p, vs, rfl, rfl, g, q⟩ := r
  unfold Mi.app at hm
  split at hm
  · rename_i hz
    cases hm
    have c : Chg [p] H (upd H p (.lst (vs ++ [u]))) := Chg.wr g (fun z => z)
    refine ⟨p, vs, u, rfl, rfl, g, Nat.lt_of_lt_of_le (by rw [pr_len q]; exact hz) line_big, k _ c ⟨p, _, rfl, rfl, upd_same, ?_⟩⟩
    exact pr_app (Paired.mapP q fun _ _ z => Ty.fz z c) (.cons (Ty.fz ru c) .nil)
  · cases hm
/-- xs[i] = e -/
theorem m_set {xs ys : List α} {d : α} {Q : Hp → Prop} (r : (yLst τ).rep K H F v xs) (ru : τ.rep K H [] u d) (hm : Mi.setAt xs i d = some ys) (k : ∀ H', Chg F H H' → (yLst τ).rep K H' F v ys → Q H') : rSetL v (.int i) u H Q := by
  obtain ⟨p, vs, rfl, rfl, g, q⟩ := r
  unfold Mi.setAt at hm
  obtain ⟨j, e, hm⟩ := Mi.bnd hm
  cases hm
  have c : Chg [p] H (upd H p (.lst (vs.set j u))) := Chg.wr g (fun z => z)
  refine ⟨p, vs, i, j, rfl, rfl, g, by rw [pr_len q]; exact e, k _ c ⟨p, _, rfl, rfl, upd_same, ?_⟩⟩
  exact pr_set (Ty.fz ru c) j (Paired.mapP q fun _ _ z => Ty.fz z c)
end cps
end G

namespace G
open PySem PySem.Spec PyProof.Rows L2
/-- the built-in names that the program leaves as they are -/
structure Bi (mg : Str → Option Value) : Prop where
  len : mg "len" = none
  range : mg "range" = none
  int : mg "int" = none
  bool : mg "bool" = none
  isinstance : mg "isinstance" = none
  max : mg "max" = none
  min : mg "min" = none
  list : mg "list" = none
  tuple : mg "tuple" = none
  sorted : mg "sorted" = none
  set : mg "set" = none
  enumerate : mg "enumerate" = none
  zip : mg "zip" = none
  reversed : mg "reversed" = none
  sum : mg "sum" = none
  any : mg "any" = none
  all : mg "all" = none
  str : mg "str" = none
/-- a def of the text stands under its name -/
structure Dfn (K : PySem.W.Frag) (mg : Str → Option Value) (x : Str) (st : Stmt) : Prop where
  ex : ∃ f fd, Fun K x x st f fd ∧ mg x = some (.ref f)
/-- a def may be called by its name and keeps its promise -/
structure Cal (P : Program) (w : World) (K : PySem.W.Frag) (mg : Str → Option Value) (x : Str) (ps : List Str) (k : Nat) (sp : Sp) : Prop where
  ex : ∃ f fd, mg x = some (.ref f) ∧ PySem.W.keepIn K (.ref f) = true ∧ (∀ (s : Shared) (us : List Value), us.length = ps.length → BindsTo s fd ⟨us, []⟩ (ps.zip us)) ∧ ∀ base : Heap, FnOk P w K mg base CX0 k f fd ps sp
theorem pe_cc {X : Cx} {x : Str} {ps : List Str} {j k : Nat} {sp : Sp} {p pos : Pos} {e : Expr} {es : List Expr} {t : TA} (C : Cal X.prog X.w X.K X.mg x ps j sp) (hr : Room k X.A) (ha : PA X (e :: es) t) (hj : j ≤ k := by decide) (hg : Gl X x := by rfl)
    (hd : (x == ("__debug__" : Str)) = false := by decide) (he : starEach (e :: es) X.env = (false, eval e X.env) :: starEach es X.env := by rfl)
    (hpl : (backTo pos (starEach es X.env)).any (·.1) = false := by rfl) :
    PE X (.Call (.Name x p) (e :: es) [] pos) (tCall sp [] E0 t) := by
  obtain ⟨f, fd, g, kp, b, F⟩ := C.ex
  exact pe_call (F X.base) (hr.mono hj) hg g kp (fun s us _ hl => by rw [List.append_nil] at hl ⊢; exact b s us hl) .nil pass0 ha hd he hpl
theorem bindsF {K : PySem.W.Frag} {x qual : Str} {st : Stmt} {f : Addr} {fd : FuncData} {ps : List Str} (F : Fun K x qual st f fd)
    (h : ∀ (kV doc pm : Value) (an : Option Addr) (cdv ct : Value) (us : List Value), us.length = ps.length → bindArgs (PySem.W.fnOf x qual (defArgs st) (defBody st) (defScope st) .none kV doc pm an cdv ct) ⟨us, []⟩ = pure (ps.zip us)) (s : Shared) (us : List Value) (hl : us.length = ps.length) : BindsTo s fd ⟨us, []⟩ (ps.zip us) := by
  obtain ⟨oc, od, kV, doc, pm, an, cdv, ct, osl, rfl, lk, hcd⟩ := F.ex
  exact .of_eq (h kV doc pm an cdv ct us hl)
end G

namespace G
open PySem PySem.Spec PyProof.Rows L2
section
variable {K : PySem.W.Frag} {σ σ' : L2.St} {H : Hp} {F : List Addr} {ta tb te : TE} {v u x y : V} {i j : Int} {t tu : TT} {b c a : Bool} {α β : Type} {τ : Ty α} {Q : VK} {D : Ends} {t1 t2 : TS}
theorem val_add (ha : Val ta σ H (.int i)) (hb : Val tb σ H (.int j)) : Val (tOp (rI0 fun i j => .int (i + j)) ta tb) σ H (.int (i + j)) := val_I0 ha hb
theorem val_sub (ha : Val ta σ H (.int i)) (hb : Val tb σ H (.int j)) : Val (tOp (rI0 fun i j => .int (i - j)) ta tb) σ H (.int (i - j)) := val_I0 ha hb
theorem val_lt (ha : Val ta σ H (.int i)) (hb : Val tb σ H (.int j)) : Val (tOp (rI0 fun i j => .bl (decide (i < j))) ta tb) σ H (.bl (decide (i < j))) := val_I0 (g := fun i j => .bl (decide (i < j))) ha hb
theorem val_le (ha : Val ta σ H (.int i)) (hb : Val tb σ H (.int j)) : Val (tOp (rI0 fun i j => .bl (decide (i ≤ j))) ta tb) σ H (.bl (decide (i ≤ j))) := val_I0 (g := fun i j => .bl (decide (i ≤ j))) ha hb
theorem val_gt (ha : Val ta σ H (.int i)) (hb : Val tb σ H (.int j)) : Val (tOp (rI0 fun i j => .bl (decide (j < i))) ta tb) σ H (.bl (decide (j < i))) := val_I0 (g := fun i j => .bl (decide (j < i))) ha hb
theorem val_ge (ha : Val ta σ H (.int i)) (hb : Val tb σ H (.int j)) : Val (tOp (rI0 fun i j => .bl (decide (j ≤ i))) ta tb) σ H (.bl (decide (j ≤ i))) := val_I0 (g := fun i j => .bl (decide (j ≤ i))) ha hb
theorem val_neg (ha : Val ta σ H (.int i)) : Val (tUn (rU fun i => .int (-i)) ta) σ H (.int (-i)) := val_U (g := fun i => .int (-i)) ha
theorem val_mulL (ha : Val ta σ H (.int i)) (hb : Val tb σ H (.int j)) (h : -(2 ^ 64) < i ∧ i < 2 ^ 64) : Val (tOp (rI CMul fun i j => .int (i * j)) ta tb) σ H (.int (i * j)) := val_I (g := fun i j => .int (i * j)) ha hb (.inl h)
theorem val_mulR (ha : Val ta σ H (.int i)) (hb : Val tb σ H (.int j)) (h : -(2 ^ 64) < j ∧ j < 2 ^ 64) : Val (tOp (rI CMul fun i j => .int (i * j)) ta tb) σ H (.int (i * j)) := val_I (g := fun i j => .int (i * j)) ha hb (.inr h)
theorem val_modc (ha : Val ta σ H (.int i)) (hb : Val tb σ H (.int j)) (h : 0 < j) : Val (tOp (rI (fun _ j => 0 < j) fun i j => .int (i % j)) ta tb) σ H (.int (i % j)) := val_I (g := fun i j => .int (i % j)) ha hb h
theorem val_divc (ha : Val ta σ H (.int i)) (hb : Val tb σ H (.int j)) (h : CDiv i j) : Val (tOp (rI CDiv fun i j => .int (i / j)) ta tb) σ H (.int (i / j)) := val_I (g := fun i j => .int (i / j)) ha hb h
theorem val_pow {n : Nat} (ha : Val ta σ H (.int i)) (hb : Val tb σ H (.int j)) (e : j = (n : Int)) (hn : n ≤ 1000000) (h : i.natAbs < 2 ^ 64) : Val (tOp (rI CPow fun i j => .int (i ^ j.toNat)) ta tb) σ H (.int (i ^ n)) := by
  subst e
  exact val_I (g := fun i j => .int (i ^ j.toNat)) ha hb ⟨by omega, by omega, h⟩
theorem val_shl {n : Nat} (ha : Val ta σ H (.int i)) (hb : Val tb σ H (.int j)) (h : CPow i j) : Val (tOp (rI CPow fun i j => .int (i * 2 ^ j.toNat)) ta tb) σ H (.int (i * 2 ^ j.toNat)) := val_I (g := fun i j => .int (i * 2 ^ j.toNat)) ha hb h
theorem val_shr (ha : Val ta σ H (.int i)) (hb : Val tb σ H (.int j)) (h : 0 ≤ j) : Val (tOp (rI (fun _ j => 0 ≤ j) fun i j => .int (i / 2 ^ j.toNat)) ta tb) σ H (.int (i / 2 ^ j.toNat)) := val_I (g := fun i j => .int (i / 2 ^ j.toNat)) ha hb h
theorem ans_B (h : Val te σ H (.bl b)) : Ans (tB te) σ H b := ans_val h
theorem ans_N (h : Ans t σ H b) : Ans (tNot t) σ H (!b) := ans_not h
theorem ans_andB (h1 : Ans t σ H a) (h2 : a = true → Ans tu σ H b) : Ans (tAnd t tu) σ H (a && b) := by
  cases a with
  | true => exact ans_and h1 (h2 rfl)
  | false => exact ans_and0 h1
theorem ans_orB (h1 : Ans t σ H a) (h2 : a = false → Ans tu σ H b) : Ans (tOr t tu) σ H (a || b) := by
  cases a with
  | true => exact ans_or1 h1
  | false => exact ans_or h1 (h2 rfl)
theorem ans_andO {m : Option Bool} (h1 : Ans t σ H a) (hc : (if a = true then m else some false) = some c) (h2 : m = some c → Ans tu σ H c) : Ans (tAnd t tu) σ H c := by
  cases a with
  | true => exact ans_and h1 (h2 hc)
  | false => cases hc; exact ans_and0 h1
theorem ans_orO {m : Option Bool} (h1 : Ans t σ H a) (hc : (if a = true then some true else m) = some c) (h2 : m = some c → Ans tu σ H c) : Ans (tOr t tu) σ H c := by
  cases a with
  | true => cases hc; exact ans_or1 h1
  | false => exact ans_or h1 (h2 hc)
theorem val_notV (h : Val ta σ H (.bl a)) : Val (tNotV ta) σ H (.bl (!a)) := fun Q q => h _ ⟨a, rfl, q⟩
theorem val_andV (h1 : Val ta σ H (.bl a)) (h2 : a = true → Val tb σ H (.bl b)) : Val (tAndV ta tb) σ H (.bl (a && b)) := fun Q q => h1 _ ⟨a, rfl, by
  cases a with
  | true => exact iteT (h2 rfl Q q)
  | false => exact iteF q⟩
theorem val_orV (h1 : Val ta σ H (.bl a)) (h2 : a = false → Val tb σ H (.bl b)) : Val (tOrV ta tb) σ H (.bl (a || b)) := fun Q q => h1 _ ⟨a, rfl, by
  cases a with
  | true => exact iteT q
  | false => exact iteF (h2 rfl Q q)⟩
theorem val_andVO {m : Option Bool} (h1 : Val ta σ H (.bl a)) (hc : (if a = true then m else some false) = some c) (h2 : m = some c → Val tb σ H (.bl c)) : Val (tAndV ta tb) σ H (.bl c) := fun Q q => h1 _ ⟨a, rfl, by
  cases a with
  | true => exact iteT (h2 hc Q q)
  | false => cases hc; exact iteF q⟩
theorem val_orVO {m : Option Bool} (h1 : Val ta σ H (.bl a)) (hc : (if a = true then some true else m) = some c) (h2 : m = some c → Val tb σ H (.bl c)) : Val (tOrV ta tb) σ H (.bl c) := fun Q q => h1 _ ⟨a, rfl, by
  cases a with
  | true => cases hc; exact iteT q
  | false => exact iteF (h2 hc Q q)⟩
/-! ### readings taken apart -/
theorem w_op {r : R2} (h : ta σ H fun x H1 => tb σ H1 fun y H2 => r x y H2 Q) : tOp r ta tb σ H Q := h
theorem w_un {r : V → Hp → VK → Prop} (h : ta σ H fun x H1 => r x H1 Q) : tUn r ta σ H Q := h
theorem w_cb {r : List V → Hp → VK → Prop} {ts : TA} (h : ts σ H fun vs H1 => r vs H1 Q) : tCB r ts σ H Q := h
theorem w_call {sp : Sp} {dvs : List V} {E : XK} {ts : TA} (h : ts σ H fun vs H1 => sp (vs ++ dvs) H1 Q E) : tCall sp dvs E ts σ H Q := h
theorem w_cons {tr : TA} {Q : List V → Hp → Prop} (h : ta σ H fun x H1 => tr σ H1 fun xs H2 => Q (x :: xs) H2) : tCons ta tr σ H Q := h
theorem w_nil {Q : List V → Hp → Prop} (h : Q [] H) : tNil σ H Q := h
theorem w_args {ts : TA} {vs : List V} {Q : List V → Hp → Prop} (h : VaA ts σ H vs) (k : Q vs H) : ts σ H Q := h Q k
def LstG (xs : List V) (H : Hp) (Q : VK) : Prop := xs.length ≤ sizeLine ∧ ∀ p, H p = none → Q (.ref p) (upd H p (.lst xs))
def TupG (xs : List V) (H : Hp) (Q : VK) : Prop := xs.length ≤ sizeLine ∧ ∀ p, H p = none → Q (.ref p) (upd H p (.tup xs))
theorem w_lst {ts : TA} (h : ts σ H fun xs H1 => LstG xs H1 Q) : L2.tLst ts σ H Q := h
theorem w_tup {ts : TA} (h : ts σ H fun xs H1 => TupG xs H1 Q) : L2.tTup ts σ H Q := h
theorem w_test {Q : Bool → Hp → Prop} (h : te σ H fun x H' => ∃ k, x = .bl k ∧ Q k H') : tTest te σ H Q := h
theorem w_B {Q : Bool → Hp → Prop} (h : te σ H fun x H' => ∃ k, x = .bl k ∧ Q k H') : tB te σ H Q := h
theorem w_bl {Q : Bool → Hp → Prop} (k : Q b H) : ∃ k, V.bl b = .bl k ∧ Q k H := ⟨b, rfl, k⟩
theorem w_not {Q : Bool → Hp → Prop} (h : t σ H fun c H1 => Q (!c) H1) : tNot t σ H Q := h
theorem w_and {Q : Bool → Hp → Prop} (h : t σ H fun c H1 => if c = true then tu σ H1 Q else Q false H1) : tAnd t tu σ H Q := h
theorem w_or {Q : Bool → Hp → Prop} (h : t σ H fun c H1 => if c = true then Q true H1 else tu σ H1 Q) : tOr t tu σ H Q := h
theorem w_andV (h : ta σ H fun x H1 => ∃ c, x = .bl c ∧ if c = true then tb σ H1 Q else Q (.bl false) H1) : tAndV ta tb σ H Q := h
theorem w_orV (h : ta σ H fun x H1 => ∃ c, x = .bl c ∧ if c = true then Q (.bl true) H1 else tb σ H1 Q) : tOrV ta tb σ H Q := h
theorem w_notV (h : ta σ H fun x H1 => ∃ c, x = .bl c ∧ Q (.bl (!c)) H1) : tNotV ta σ H Q := h
theorem w_blV {P : Bool → Prop} (k : P b) : ∃ k, V.bl b = .bl k ∧ P k := ⟨b, rfl, k⟩
theorem w_I0 {g : Int → Int → V} (k : Q (g i j) H) : rI0 g (.int i) (.int j) H Q := ⟨i, j, rfl, rfl, k⟩
theorem w_I {C : Int → Int → Prop} {g : Int → Int → V} (hc : C i j) (k : Q (g i j) H) : rI C g (.int i) (.int j) H Q := ⟨i, j, rfl, rfl, hc, k⟩
theorem w_U {g : Int → V} (k : Q (g i) H) : rU g (.int i) H Q := ⟨i, rfl, k⟩
theorem w_mul {r : Int} (h : Mi.mul i j = some r) (k : Q (.int r) H) : rI CMul (fun i j => .int (i * j)) (.int i) (.int j) H Q := ⟨i, j, rfl, rfl, (mulC h).1, by show Q (.int (i * j)) H; rw [(mulC h).2]; exact k⟩
theorem w_mod {r : Int} (h : Mi.mod i j = some r) (k : Q (.int r) H) : rI (fun _ j => 0 < j) (fun i j => .int (i % j)) (.int i) (.int j) H Q := ⟨i, j, rfl, rfl, (modC h).1, by show Q (.int (i % j)) H; rw [(modC h).2]; exact k⟩
theorem w_fdiv {r : Int} (h : Mi.fdiv i j = some r) (k : Q (.int r) H) : rI CDivW (fun i j => .int (i / j)) (.int i) (.int j) H Q := ⟨i, j, rfl, rfl, (divC h).1, by show Q (.int (i / j)) H; rw [(divC h).2]; exact k⟩
theorem w_eqI (k : Q (.bl (decide (i = j))) H) : rEq (.int i) (.int j) H Q := ⟨rfl, by rw [dI]; exact k⟩
theorem w_neI (k : Q (.bl (!decide (i = j))) H) : rNe (.int i) (.int j) H Q := ⟨rfl, by rw [dI]; exact k⟩
theorem w_eqB (k : Q (.bl (decide (b = c))) H) : rEq (.bl b) (.bl c) H Q := ⟨rfl, by rw [dB]; exact k⟩
theorem w_neB (k : Q (.bl (!decide (b = c))) H) : rNe (.bl b) (.bl c) H Q := ⟨rfl, by rw [dB]; exact k⟩
theorem w_int (k : Q (.int i) H) : rInt1 [.int i] H Q := .inl ⟨i, rfl, k⟩
theorem w_max2 (k : Q (.int (max i j)) H) : rMax2 [.int i, .int j] H Q := ⟨i, j, rfl, by
  have e : (if j > i then j else i) = max i j := by split <;> omega
  rw [e]; exact k⟩
theorem w_min2 (k : Q (.int (min i j)) H) : rMin2 [.int i, .int j] H Q := ⟨i, j, rfl, by
  have e : (if j < i then j else i) = min i j := by split <;> omega
  rw [e]; exact k⟩
theorem w_lenL {xs : List α} (r : (yLst τ).rep K H F v xs) (k : Q (.int (xs.length : Int)) H) : rLenQ K [v] H Q := by
  obtain ⟨a, vs, e, s, q⟩ := lst_sq r
  subst e
  exact ⟨a, vs, rfl, .inl s, by rw [pr_len q]; exact k⟩
theorem w_lenT {xs : List α} (r : (yTupL τ).rep K H F v xs) (k : Q (.int (xs.length : Int)) H) : rLenQ K [v] H Q := by
  obtain ⟨a, vs, e, s, q⟩ := tupl_sq r
  subst e
  exact ⟨a, vs, rfl, .inr s, by rw [pr_len q]; exact k⟩
theorem w_ixL {xs : List α} {x : α} (r : (yLst τ).rep K H F v xs) (h : Mi.at_ xs i = some x) (k : ∀ u, τ.rep K H [] u x → Q u H) : rIxL K v (.int i) H Q := by
  obtain ⟨a, vs, e, s, q⟩ := lst_sq r
  subst e
  obtain ⟨u, e, ru⟩ := pr_at q h
  exact ⟨a, vs, i, u, rfl, rfl, s, e, k u ru⟩
theorem w_ixT {xs : List α} {x : α} (r : (yTupL τ).rep K H F v xs) (h : Mi.at_ xs i = some x) (k : ∀ u, τ.rep K H [] u x → Q u H) : rIxT K v (.int i) H Q := by
  obtain ⟨a, vs, e, s, q⟩ := tupl_sq r
  subst e
  obtain ⟨u, e, ru⟩ := pr_at q h
  exact ⟨a, vs, i, u, rfl, rfl, s, e, k u ru⟩
theorem e_lst {vs : List V} {xs : List α} (z : vs.length ≤ Mi.big) (r : Paired (fun u x => τ.rep K H [] u x) vs xs) (k : ∀ p H', H p = none → Chg [] H H' → (yLst τ).rep K H' [p] (.ref p) xs → Q (.ref p) H') :
    LstG vs H Q := ⟨sz z, fun p np => k p _ np (Chg.lay np trivial)
      ⟨p, vs, rfl, rfl, upd_same, Paired.mapP r fun u x q => Ty.ex q (Chg.lay np trivial)⟩⟩
theorem e_tup {ty : Tys α} {vs : List V} {d : α} {F : List Addr} (z : vs.length ≤ Mi.big) (r : ty.rep K H F vs d) (k : ∀ p H', H p = none → Chg [] H H' → (yTup ty).rep K H' F (.ref p) d → Q (.ref p) H') :
    TupG vs H Q := ⟨sz z, fun p np => k p _ np (Chg.lay np trivial)
      ⟨p, vs, rfl, .inl (.inl upd_same), ty.keep r fun b o e _ => by rw [upd_ne (ne_of_none e np)]; exact e⟩⟩
/-! ### statements -/
theorem w_asg {g : TG} (h : te σ H fun x H1 => g x σ H1 D.nx) : tAsg te g D σ H := h
theorem w_drop (h : te σ H fun _ H1 => D.nx σ H1) : tDrop te D σ H := h
theorem w_ret (h : te σ H D.rt) : tRet te D σ H := h
theorem w_retN (h : D.rt .non H) : tRetN D σ H := h
theorem w_next (h : D.nx σ H) : tNext D σ H := h
theorem w_cont (h : D.ct σ H) : tCont D σ H := h
theorem w_break (h : D.bk σ H) : tBreak D σ H := h
theorem w_ifS (h : t σ H fun b H1 => if b = true then t1 D σ H1 else t2 D σ H1) : tIfS t t1 t2 D σ H := h
theorem w_ifE (h : t σ H fun c H1 => if c = true then ta σ H1 Q else tb σ H1 Q) : tIf t ta tb σ H Q := h
theorem w_gsub {to ti : TE} {ts : TSet} {Q : L2.St → Hp → Prop} (h : to σ H fun o H1 => ti σ H1 fun i H2 => ts o i v H2 fun H3 => Q σ H3) : gSub to ti ts v σ H Q := h
theorem w_bm {T : String} {r : V → List V → Hp → VK → Prop} {to : TE} {ts : TA} (h : to σ H fun x H1 => tyV K T x H1 ∧ ts σ H1 fun xs H2 => r x xs H2 Q) : tBM K T r to ts σ H Q := h
theorem w_bm0 {T : String} {r : V → List V → Hp → VK → Prop} {to : TE} (h : to σ H fun x H1 => tyV K T x H1 ∧ r x [] H1 Q) : tBM0 K T r to σ H Q := h
theorem tyv_lst {xs : List α} (r : (yLst τ).rep K H F v xs) : tyV K "list" v H := by
  obtain ⟨a, vs, rfl, s, q⟩ := lst_sq r
  exact .inl ⟨rfl, _, s⟩
/-- a join of tests -/
theorem j_tt {R : Hp → Prop} {Q : Bool → Hp → Prop} (c : Bool) (w : ∀ Q' : Bool → Hp → Prop, (∀ H', R H' → Q' c H') → t σ H Q') (k : ∀ H', R H' → Q c H') : t σ H Q := w Q k
theorem j_te {R : Hp → Prop} (x : V) (w : ∀ Q' : VK, (∀ H', R H' → Q' x H') → te σ H Q') (k : ∀ H', R H' → Q x H') : te σ H Q := w Q k
/-! ### statements with what follows -/
theorem q_asg {g : TG} (h : te σ H fun x H1 => g x σ H1 (t2 D)) : tSeq (tAsg te g) t2 D σ H := h
theorem q_setE {k : Nat} {w : V} (h : Val te σ H v) (ev : v = w) (e : σ.set k (some w) = σ') (q : t2 D σ' H) : tSeq (tAsg te (gName k)) t2 D σ H := by
  subst ev
  exact h _ (by show t2 D (σ.set k (some v)) H; rw [e]; exact q)
theorem q_drop (h : te σ H fun _ H1 => t2 D σ H1) : tSeq (tDrop te) t2 D σ H := h
theorem q_ret (h : te σ H D.rt) : tSeq (tRet te) t2 D σ H := h
theorem q_retN (h : D.rt .non H) : tSeq tRetN t2 D σ H := h
theorem q_pass (h : t2 D σ H) : tSeq tNext t2 D σ H := h
theorem q_cont (h : D.ct σ H) : tSeq tCont t2 D σ H := h
theorem q_brk (h : D.bk σ H) : tSeq tBreak t2 D σ H := h
theorem q_if {t3 : TS} (h : Ans t σ H b) (h1 : b = true → t1 { D with nx := t2 D } σ H) (h2 : b = false → t3 { D with nx := t2 D } σ H) : tSeq (tIfS t t1 t3) t2 D σ H := h _ (c_if h1 h2)
theorem q_ifS {t3 : TS} (h : t σ H fun b H1 => if b = true then t1 { D with nx := t2 D } σ H1 else t3 { D with nx := t2 D } σ H1) : tSeq (tIfS t t1 t3) t2 D σ H := h
theorem w_fall (h : t2 D σ H) : tNext { D with nx := t2 D } σ H := h
theorem w_nextJ {nx bk ct : L2.St → Hp → Prop} {rt : VK} (h : nx σ H) : tNext (Ends.mk nx rt bk ct) σ H := h
theorem q_aug {k : Nat} {f : Int → Int → Int} {m n p : Int} (hx : σ[k]? = some (some (.int m))) (h : Val te σ H (.int n)) (en : f m n = p) (e : σ.set k (some (.int p)) = σ') (q : t2 D σ' H) : tSeq (tAug k te (ipI f)) t2 D σ H :=
  ⟨_, hx, h _ ⟨m, n, rfl, rfl, by rw [en]; show t2 D (List.set σ k (some (.int p))) H; rw [e]; exact q⟩⟩
/-! ### loops -/
def LoopG (J : It) (g : TG) (tb : TS) (D : Ends) (nx : L2.St → Hp → Prop) (σ : L2.St) (H : Hp) : Prop := ∃ W : Nat → Nat → L2.St → Hp → Prop, (∃ m, W 0 m σ H) ∧ ∀ i m σ H, W i m σ H →
  (J.stop i H ∧ nx σ H) ∨ (J.go i H ∧ ∃ N : L2.St → Hp → Prop, (∀ σ' H', N σ' H' → ∃ m', m' < m ∧ W (i + 1) m' σ' H') ∧ ∀ x H', J.yld i H x H' → g x σ H' fun σ2 H2 => tb { D with nx := N, ct := N, bk := nx } σ2 H2)
theorem q_for {wi : TI} {g : TG} {tb : TS} (h : wi σ H fun J H1 => LoopG J g tb D (t2 D) σ H1) : tSeq (tFor wi g tb) t2 D σ H := h
theorem w_iList {tl : TE} {R : It → Hp → Prop} (h : tl σ H fun x H1 => ∃ a, x = .ref a ∧ (∃ xs, SqL K H1 a xs) ∧ R (Itl K a) H1) : iList K tl σ H R := h
theorem w_iTup {tl : TE} {R : It → Hp → Prop} (h : tl σ H fun x H1 => ∃ a, x = .ref a ∧ (∃ xs, SqT K H1 a xs) ∧ R (Itt K a) H1) : iTup K tl σ H R := h
theorem w_iRng1 {ts : TA} {R : It → Hp → Prop} (h : ts σ H fun vs H1 => ∃ j : Int, vs = [.int j] ∧ -(2 ^ 62) ≤ j ∧ j < 2 ^ 62 ∧ R (Itr 0 j.toNat) H1) : iRng1 ts σ H R := h
theorem w_iRng2 {ts : TA} {R : It → Hp → Prop} (h : ts σ H fun vs H1 => ∃ i j : Int, vs = [.int i, .int j] ∧ (-(2 ^ 62) ≤ i ∧ i < 2 ^ 62 ∧ -(2 ^ 62) ≤ j ∧ j < 2 ^ 62) ∧ R (Itr i (j - i).toNat) H1) : iRng2 ts σ H R := h
theorem rngO_some {lo hi : Int} {g : List Int} (h : Mi.rngO lo hi = some g) : g = Mi.rng lo hi ∧ (-(2 ^ 60) ≤ lo ∧ lo < 2 ^ 60) ∧ (-(2 ^ 60) ≤ hi ∧ hi < 2 ^ 60) := by
  unfold Mi.rngO at h
  split at h
  · rename_i c
    exact ⟨(Option.some.inj h).symm, c⟩
  · cases h
theorem rng_len (lo hi : Int) : (Mi.rng lo hi).length = (hi - lo).toNat := by unfold Mi.rng; rw [List.length_map, List.length_range]
theorem rng_at {lo hi : Int} {i : Nat} (h : i < (hi - lo).toNat) : (Mi.rng lo hi)[i]? = some (lo + i) := by
  unfold Mi.rng
  rw [List.getElem?_map, List.getElem?_range h]
  rfl
theorem l_rng {g : TG} {tb : TS} {nx : L2.St → Hp → Prop} {lo hi : Int} (Pv : Nat → L2.St → Hp → Prop) (h0 : Pv 0 σ H)
    (hs : ∀ (i : Nat) (x : Int) σ' H', (Mi.rng lo hi)[i]? = some x → Pv i σ' H' → g (.int x) σ' H' fun σ2 H2 => tb { D with nx := Pv (i + 1), ct := Pv (i + 1), bk := nx } σ2 H2) (hd : ∀ σ' H', Pv (Mi.rng lo hi).length σ' H' → nx σ' H') :
    LoopG (Itr lo (hi - lo).toNat) g tb D nx σ H := for_range (D := { D with nx := nx }) (lo := lo) (n := (hi - lo).toNat) Pv h0 (fun i σ' H' hi' p => hs i _ σ' H' (rng_at hi') p) (fun σ' H' p => hd σ' H' (by rw [rng_len]; exact p))
theorem l_rng1 {g : TG} {tb : TS} {nx : L2.St → Hp → Prop} {hi : Int} {xs : List Int} (hg : Mi.rngO 0 hi = some xs) (Pv : Nat → L2.St → Hp → Prop) (h0 : Pv 0 σ H)
    (hs : ∀ (i : Nat) (x : Int) σ' H', xs[i]? = some x → Pv i σ' H' → g (.int x) σ' H' fun σ2 H2 => tb { D with nx := Pv (i + 1), ct := Pv (i + 1), bk := nx } σ2 H2) (hd : ∀ σ' H', Pv xs.length σ' H' → nx σ' H') :
    ∃ j : Int, [V.int hi] = [.int j] ∧ -(2 ^ 62) ≤ j ∧ j < 2 ^ 62 ∧ LoopG (Itr 0 j.toNat) g tb D nx σ H := by
  obtain ⟨rfl, _, h1, h2⟩ := rngO_some hg
  refine ⟨hi, rfl, by omega, by omega, ?_⟩
  have e : hi.toNat = (hi - 0).toNat := by rw [Int.sub_zero]
  rw [e]
  exact l_rng Pv h0 hs hd
theorem l_rng2 {g : TG} {tb : TS} {nx : L2.St → Hp → Prop} {lo hi : Int} {xs : List Int} (hg : Mi.rngO lo hi = some xs) (Pv : Nat → L2.St → Hp → Prop) (h0 : Pv 0 σ H)
    (hs : ∀ (i : Nat) (x : Int) σ' H', xs[i]? = some x → Pv i σ' H' → g (.int x) σ' H' fun σ2 H2 => tb { D with nx := Pv (i + 1), ct := Pv (i + 1), bk := nx } σ2 H2) (hd : ∀ σ' H', Pv xs.length σ' H' → nx σ' H') :
    ∃ i j : Int, [V.int lo, V.int hi] = [.int i, .int j] ∧ (-(2 ^ 62) ≤ i ∧ i < 2 ^ 62 ∧ -(2 ^ 62) ≤ j ∧ j < 2 ^ 62) ∧ LoopG (Itr i (j - i).toNat) g tb D nx σ H := by
  obtain ⟨rfl, h1, h2⟩ := rngO_some hg
  exact ⟨lo, hi, rfl, by omega, l_rng Pv h0 hs hd⟩
theorem l_lst {g : TG} {tb : TS} {nx : L2.St → Hp → Prop} {xs : List α} (r : (yLst τ).rep K H F v xs) (Pv : Nat → L2.St → Hp → Prop) (h0 : Pv 0 σ H) (hl : ∀ i σ' H', Pv i σ' H' → (yLst τ).rep K H' F v xs)
    (hs : ∀ (i : Nat) (x : α) (u : V) σ' H', xs[i]? = some x → τ.rep K H' [] u x → Pv i σ' H' → g u σ' H' fun σ2 H2 => tb { D with nx := Pv (i + 1), ct := Pv (i + 1), bk := nx } σ2 H2) (hd : ∀ σ' H', Pv xs.length σ' H' → nx σ' H') :
    ∃ a, v = .ref a ∧ (∃ xs, SqL K H a xs) ∧ LoopG (Itl K a) g tb D nx σ H := by
  obtain ⟨a, vs, e, s, q⟩ := lst_sq r
  refine ⟨a, e, ⟨vs, s⟩, fun i m σ' H' => m = xs.length - i ∧ i ≤ xs.length ∧ Pv i σ' H', ⟨xs.length, by omega, Nat.zero_le _, h0⟩, ?_⟩
  rintro i m σ' H' ⟨rfl, hi, p⟩
  obtain ⟨a', vs', e', s', q'⟩ := lst_sq (hl i σ' H' p)
  obtain rfl : a = a' := by rw [e] at e'; exact V.ref.inj e'
  by_cases hlt : i < xs.length
  · obtain ⟨u, hu, ru⟩ := pr_get q' (List.getElem?_eq_getElem hlt)
    refine .inr ⟨⟨vs', u, s', hu⟩, Pv (i + 1), fun σ2 H2 p' => ⟨xs.length - (i + 1), by omega, rfl, hlt, p'⟩, fun x H2 y => ?_⟩
    obtain ⟨rfl, y⟩ := y
    obtain rfl : x = u := Option.some.inj ((y _ s').symm.trans hu)
    exact hs i _ _ σ' _ (List.getElem?_eq_getElem hlt) ru p
  · obtain rfl : i = xs.length := by omega
    exact .inl ⟨⟨vs', s', by rw [pr_len q']; exact Nat.le_refl _⟩, hd σ' H' p⟩
theorem l_tup {g : TG} {tb : TS} {nx : L2.St → Hp → Prop} {xs : List α} (r : (yTupL τ).rep K H F v xs) (Pv : Nat → L2.St → Hp → Prop) (h0 : Pv 0 σ H) (hl : ∀ i σ' H', Pv i σ' H' → (yTupL τ).rep K H' F v xs)
    (hs : ∀ (i : Nat) (x : α) (u : V) σ' H', xs[i]? = some x → τ.rep K H' [] u x → Pv i σ' H' → g u σ' H' fun σ2 H2 => tb { D with nx := Pv (i + 1), ct := Pv (i + 1), bk := nx } σ2 H2) (hd : ∀ σ' H', Pv xs.length σ' H' → nx σ' H') :
    ∃ a, v = .ref a ∧ (∃ xs, SqT K H a xs) ∧ LoopG (Itt K a) g tb D nx σ H := by
  obtain ⟨a, vs, e, s, q⟩ := tupl_sq r
  refine ⟨a, e, ⟨vs, s⟩, fun i m σ' H' => m = xs.length - i ∧ i ≤ xs.length ∧ Pv i σ' H', ⟨xs.length, by omega, Nat.zero_le _, h0⟩, ?_⟩
  rintro i m σ' H' ⟨rfl, hi, p⟩
  obtain ⟨a', vs', e', s', q'⟩ := tupl_sq (hl i σ' H' p)
  obtain rfl : a = a' := by rw [e] at e'; exact V.ref.inj e'
  by_cases hlt : i < xs.length
  · obtain ⟨u, hu, ru⟩ := pr_get q' (List.getElem?_eq_getElem hlt)
    refine .inr ⟨⟨vs', u, s', hu⟩, Pv (i + 1), fun σ2 H2 p' => ⟨xs.length - (i + 1), by omega, rfl, hlt, p'⟩, fun x H2 y => ?_⟩
    obtain ⟨rfl, y⟩ := y
    obtain rfl : x = u := Option.some.inj ((y _ s').symm.trans hu)
    exact hs i _ _ σ' _ (List.getElem?_eq_getElem hlt) ru p
  · obtain rfl : i = xs.length := by omega
    exact .inl ⟨⟨vs', s', by rw [pr_len q']; exact Nat.le_refl _⟩, hd σ' H' p⟩
end
/-! ### the items of tuples -/
/-- the n-th item has the kind τ and the data p d -/
def At {α β : Type} (ts : Tys α) (n : Nat) (τ : Ty β) (p : α → β) : Prop := ∀ {K : PySem.W.Frag} {H : Hp} {F : List Addr} {vs : List V} {d : α}, ts.rep K H F vs d → ∃ u F1, vs[n]? = some u ∧ τ.rep K H F1 u (p d) ∧ ∀ a ∈ F1, a ∈ F
theorem at1 {α : Type} {τ : Ty α} : At (sOne τ) 0 τ id := fun h => by
  obtain ⟨v, rfl, r⟩ := h
  exact ⟨v, _, rfl, r, fun _ h => h⟩
theorem at0 {α β : Type} {τ : Ty α} {ts : Tys β} : At (sCons τ ts) 0 τ (fun d => d.1) := fun h => by
  obtain ⟨v, ws, F1, F2, rfl, rfl, r, q⟩ := h
  exact ⟨v, F1, rfl, r, fun _ h => List.mem_append_left _ h⟩
theorem atS {α β γ : Type} {τ : Ty α} {ts : Tys β} {n : Nat} {υ : Ty γ} {p : β → γ} (A : At ts n υ p) : At (sCons τ ts) (n + 1) υ (fun d => p d.2) := fun h => by
  obtain ⟨v, ws, F1, F2, rfl, rfl, r, q⟩ := h
  obtain ⟨u, F3, e, ru, sub⟩ := A q
  exact ⟨u, F3, e, ru, fun _ h => List.mem_append_right _ (sub _ h)⟩
theorem Dj.sub {F G F1 : List Addr} (d : Dj F G) (s : ∀ a ∈ F1, a ∈ F) : Dj F1 G := fun a h => d a (s a h)
theorem itm_tup {α β : Type} {ts : Tys α} {n : Nat} {τ : Ty β} {p : α → β} {K : PySem.W.Frag} {H : Hp} {F : List Addr} {v : V} {d : α} (A : At ts n τ p) (r : (yTup ts).rep K H F v d) :
    ∃ u F1, τ.rep K H F1 u (p d) ∧ (∀ a ∈ F1, a ∈ F) ∧ (∀ {Q : VK}, Q u H → rIxT K v (.int (n : Int)) H Q) ∧ ∀ {σ : L2.St} {ta tb : TE}, Val ta σ H v → Val tb σ H (.int (n : Int)) → Val (tOp (rIxT K) ta tb) σ H u := by
  obtain ⟨a, vs, rfl, s, q⟩ := r
  obtain ⟨u, F1, e, ru, sub⟩ := A q
  have k : ∀ {Q : VK}, Q u H → rIxT K (.ref a) (.int (n : Int)) H Q := fun k => ⟨a, vs, n, u, rfl, rfl, s, atI_nat e, k⟩
  exact ⟨u, F1, ru, sub, k, fun ha hb => val_op ha hb fun Q q => k q⟩
end G

namespace G
open PySem PySem.Spec PyProof.Rows L2
section
variable {K : PySem.W.Frag} {σ σ' : L2.St} {H : Hp} {F G F1 F2 : List Addr} {ta tb te : TE} {v u x y w : V} {i j : Int} {t tu : TT} {b c a : Bool} {α β : Type} {τ : Ty α} {Q : VK} {D : Ends} {t1 t2 : TS}
theorem s_setE {k : Nat} (h : Val te σ H v) (ev : v = w) (e : σ.set k (some w) = σ') (q : D.nx σ' H) : tAsg te (gName k) D σ H := s_set (ev ▸ h) e q
theorem g_nameE {k : Nat} {Q : L2.St → Hp → Prop} (ev : v = w) (e : σ.set k (some w) = σ') (q : Q σ' H) : gName k v σ H Q := g_name (by rw [ev]; exact e) q
theorem s_aug {k : Nat} {f : Int → Int → Int} {m n p : Int} (hx : σ[k]? = some (some (.int m))) (h : Val te σ H (.int n)) (en : f m n = p) (e : σ.set k (some (.int p)) = σ') (q : D.nx σ' H) : tAug k te (ipI f) D σ H :=
  ⟨_, hx, h _ ⟨m, n, rfl, rfl, by rw [en]; show D.nx (List.set σ k (some (.int p))) H; rw [e]; exact q⟩⟩
/-! ### None or data -/
theorem nn_int : V.int i ≠ .non := fun z => nomatch z
theorem nn_bl : V.bl b ≠ .non := fun z => nomatch z
theorem nn_str {s : Str} : V.str s ≠ .non := fun z => nomatch z
theorem nn_lst {xs : List α} (r : (yLst τ).rep K H F v xs) : v ≠ .non := by obtain ⟨a, vs, rfl, _⟩ := r; exact fun z => nomatch z
theorem nn_tupl {xs : List α} (r : (yTupL τ).rep K H F v xs) : v ≠ .non := by obtain ⟨a, vs, rfl, _⟩ := r; exact fun z => nomatch z
theorem nn_tup {ts : Tys α} {d : α} (r : (yTup ts).rep K H F v d) : v ≠ .non := by obtain ⟨a, vs, rfl, _⟩ := r; exact fun z => nomatch z
theorem opt_some {d : Option α} {x : α} (r : (yOpt τ).rep K H F v d) (h : d = some x) : τ.rep K H F v x := by subst h; exact r.2
theorem opt_int {d : Option Int} {x : Int} (r : (yOpt yInt).rep K H F v d) (h : d = some x) : F = [] ∧ v = .int x := opt_some r h
theorem opt_bool {d : Option Bool} {x : Bool} (r : (yOpt yBool).rep K H F v d) (h : d = some x) : F = [] ∧ v = .bl x := opt_some r h
theorem opt_str {d : Option (List Nat)} {x : List Nat} (r : (yOpt yStr).rep K H F v d) (h : d = some x) : F = [] ∧ v = .str (toS x) := opt_some r h
theorem opt_dec {d : Option α} (r : (yOpt τ).rep K H F v d) : decide (v = .non) = d.isNone := by
  cases d with
  | none => obtain ⟨_, rfl⟩ := r; rfl
  | some x => exact decide_eq_false r.1
theorem opt_decN {d : Option α} (r : (yOpt τ).rep K H F v d) : (!decide (v = .non)) = d.isSome := by
  rw [opt_dec r]; cases d <;> rfl
theorem val_isN {d : Option α} (r : (yOpt τ).rep K H F v d) (ha : Val ta σ H v) : Val (tOp rIsN ta (tC .non)) σ H (.bl d.isNone) := val_op ha val_c fun Q q => ⟨rfl, by rw [opt_dec r]; exact q⟩
theorem val_notN {d : Option α} (r : (yOpt τ).rep K H F v d) (ha : Val ta σ H v) : Val (tOp rNotN ta (tC .non)) σ H (.bl d.isSome) := val_op ha val_c fun Q q => ⟨rfl, by rw [opt_decN r]; exact q⟩
theorem w_isN {d : Option α} (r : (yOpt τ).rep K H F v d) (k : Q (.bl d.isNone) H) : rIsN v .non H Q := ⟨rfl, by rw [opt_dec r]; exact k⟩
theorem w_notN {d : Option α} (r : (yOpt τ).rep K H F v d) (k : Q (.bl d.isSome) H) : rNotN v .non H Q := ⟨rfl, by rw [opt_decN r]; exact k⟩
/-! ### footprints -/
theorem Dj.app (d1 : Dj F1 G) (d2 : Dj F2 G) : Dj (F1 ++ F2) G := fun a h => (List.mem_append.mp h).elim (d1 a) (d2 a)
theorem app_fresh {H0 : Hp} (n1 : ∀ a ∈ F1, H0 a = none) (n2 : ∀ a ∈ F2, H0 a = none) : ∀ a ∈ F1 ++ F2, H0 a = none := fun a h => (List.mem_append.mp h).elim (n1 a) (n2 a)
theorem nil_fresh {H0 : Hp} : ∀ a ∈ ([] : List Addr), H0 a = none := fun a h => nomatch h
def Fz {α : Type} (τ : Ty α) : Prop := ∀ {K : PySem.W.Frag} {H : Hp} {F : List Addr} {v : V} {d : α}, τ.rep K H F v d → F = []
def Fzs {α : Type} (τ : Tys α) : Prop := ∀ {K : PySem.W.Frag} {H : Hp} {F : List Addr} {v : List V} {d : α}, τ.rep K H F v d → F = []
theorem fz_int : Fz yInt := fun h => h.1
theorem fz_bool : Fz yBool := fun h => h.1
theorem fz_str : Fz yStr := fun h => h.1
theorem fz_none : Fz yNon := fun h => h.1
theorem fz_scr : Fz yScr := fun h => h.1
theorem fz_tupl {τ : Ty α} : Fz (yTupL τ) := fun h => by obtain ⟨_, _, _, e, _⟩ := h; exact e
theorem fz_opt {τ : Ty α} (z : Fz τ) : Fz (yOpt τ) := fun {K H F v d} h => by
  cases d with
  | none => exact h.1
  | some x => exact z h.2
theorem fzs_one {τ : Ty α} (z : Fz τ) : Fzs (sOne τ) := fun h => by obtain ⟨_, _, r⟩ := h; exact z r
theorem fzs_cons {τ : Ty α} {ts : Tys β} (z : Fz τ) (zs : Fzs ts) : Fzs (sCons τ ts) := fun h => by
  obtain ⟨_, _, F1, F2, _, e, r, q⟩ := h
  rw [e, z r, zs q]; rfl
theorem fz_tup {ts : Tys α} (z : Fzs ts) : Fz (yTup ts) := fun h => by obtain ⟨_, _, _, _, r⟩ := h; exact z r
def LenS {α : Type} (ts : Tys α) (n : Nat) : Prop := ∀ {K : PySem.W.Frag} {H : Hp} {F : List Addr} {vs : List V} {d : α}, ts.rep K H F vs d → vs.length = n
theorem lens_one {τ : Ty α} : LenS (sOne τ) 1 := fun h => by obtain ⟨_, e, _⟩ := h; rw [e]; rfl
theorem lens_cons {τ : Ty α} {ts : Tys β} {n : Nat} (z : LenS ts n) : LenS (sCons τ ts) (n + 1) := fun h => by
  obtain ⟨_, _, _, _, e, _, _, q⟩ := h
  rw [e, List.length_cons, z q]
theorem val_lenU {ts : Tys α} {d : α} {n : Nat} (l : LenS ts n) (r : (yTup ts).rep K H F v d) (ha : Val ta σ H v) : Val (tCB (rLenQ K) (tCons ta tNil)) σ H (.int (n : Int)) := by
  obtain ⟨p, vs, rfl, s, q⟩ := r
  exact fun Q k => ha _ ⟨p, vs, rfl, .inr s, by rw [l q]; exact k⟩
/-! ### unpacking -/
theorem g_names {Q : L2.St → Hp → Prop} {σ1 : L2.St} (e : σ1 = σ') (k : Q σ' H) : Q σ1 H := e ▸ k
theorem g_tup2 {β : Type} {τ1 : Ty α} {τ2 : Ty β} {d : α × β} {i1 i2 : Nat} {Q : L2.St → Hp → Prop} (r : (yTup (sCons τ1 (sOne τ2))).rep K H [] v d)
    (k : ∀ u1 u2, τ1.rep K H [] u1 d.1 → τ2.rep K H [] u2 d.2 → Q ((σ.set i1 (some u1)).set i2 (some u2)) H) : gTup K 2 (gCons (gName i1) (gCons (gName i2) gNil)) v σ H Q := by
  obtain ⟨a, vs, rfl, s, v1, ws, F1, F2, rfl, e, r1, v2, rfl, r2⟩ := r
  obtain ⟨rfl, rfl⟩ : F1 = [] ∧ F2 = [] := List.append_eq_nil_iff.mp e.symm
  exact ⟨a, _, rfl, s, rfl, v1, _, rfl, v2, _, rfl, rfl, k v1 v2 r1 r2⟩
theorem g_tup3 {β γ : Type} {τ1 : Ty α} {τ2 : Ty β} {τ3 : Ty γ} {d : α × β × γ} {i1 i2 i3 : Nat} {Q : L2.St → Hp → Prop} (r : (yTup (sCons τ1 (sCons τ2 (sOne τ3)))).rep K H [] v d)
    (k : ∀ u1 u2 u3, τ1.rep K H [] u1 d.1 → τ2.rep K H [] u2 d.2.1 → τ3.rep K H [] u3 d.2.2 → Q (((σ.set i1 (some u1)).set i2 (some u2)).set i3 (some u3)) H) : gTup K 3 (gCons (gName i1) (gCons (gName i2) (gCons (gName i3) gNil))) v σ H Q := by
  obtain ⟨a, vs, rfl, s, v1, ws, F1, F2, rfl, e, r1, v2, ws2, F3, F4, rfl, e2, r2, v3, rfl, r3⟩ := r
  obtain ⟨rfl, rfl⟩ : F1 = [] ∧ F2 = [] := List.append_eq_nil_iff.mp e.symm
  obtain ⟨rfl, rfl⟩ : F3 = [] ∧ F4 = [] := List.append_eq_nil_iff.mp e2.symm
  exact ⟨a, _, rfl, s, rfl, v1, _, rfl, v2, _, rfl, v3, _, rfl, rfl, k v1 v2 v3 r1 r2 r3⟩
theorem g_tup4 {β γ δ : Type} {τ1 : Ty α} {τ2 : Ty β} {τ3 : Ty γ} {τ4 : Ty δ} {d : α × β × γ × δ} {i1 i2 i3 i4 : Nat} {Q : L2.St → Hp → Prop} (r : (yTup (sCons τ1 (sCons τ2 (sCons τ3 (sOne τ4))))).rep K H [] v d)
    (k : ∀ u1 u2 u3 u4, τ1.rep K H [] u1 d.1 → τ2.rep K H [] u2 d.2.1 → τ3.rep K H [] u3 d.2.2.1 → τ4.rep K H [] u4 d.2.2.2 → Q ((((σ.set i1 (some u1)).set i2 (some u2)).set i3 (some u3)).set i4 (some u4)) H) : gTup K 4 (gCons (gName i1) (gCons (gName i2) (gCons (gName i3) (gCons (gName i4) gNil)))) v σ H Q := by
  obtain ⟨a, vs, rfl, s, v1, ws, F1, F2, rfl, e, r1, v2, ws2, F3, F4, rfl, e2, r2, v3, ws3, F5, F6, rfl, e3, r3, v4, rfl, r4⟩ := r
  obtain ⟨rfl, rfl⟩ : F1 = [] ∧ F2 = [] := List.append_eq_nil_iff.mp e.symm
  obtain ⟨rfl, rfl⟩ : F3 = [] ∧ F4 = [] := List.append_eq_nil_iff.mp e2.symm
  obtain ⟨rfl, rfl⟩ : F5 = [] ∧ F6 = [] := List.append_eq_nil_iff.mp e3.symm
  exact ⟨a, _, rfl, s, rfl, v1, _, rfl, v2, _, rfl, v3, _, rfl, v4, _, rfl, rfl, k v1 v2 v3 v4 r1 r2 r3 r4⟩
/-! ### range(lo, hi, -1) -/
theorem w_iRng3 {ts : TA} {R : It → Hp → Prop} (h : ts σ H fun vs H1 => ∃ (i j c : Int) (n : Nat), vs = [.int i, .int j, .int c] ∧ RgC i j c n ∧ R (Itc i c n) H1) : iRng3 ts σ H R := h
theorem l_rngD {g : TG} {tb : TS} {nx : L2.St → Hp → Prop} {lo hi : Int} {xs : List Int} (hg : Mi.rngDownO lo hi = some xs) (Pv : Nat → L2.St → Hp → Prop) (h0 : Pv 0 σ H)
    (hs : ∀ (i : Nat) (x : Int) σ' H', xs[i]? = some x → Pv i σ' H' → g (.int x) σ' H' fun σ2 H2 => tb { D with nx := Pv (i + 1), ct := Pv (i + 1), bk := nx } σ2 H2) (hd : ∀ σ' H', Pv xs.length σ' H' → nx σ' H') :
    ∃ (i j c : Int) (n : Nat), [V.int lo, V.int hi, V.int (-1)] = [.int i, .int j, .int c] ∧ RgC i j c n ∧ LoopG (Itc i c n) g tb D nx σ H := by
  unfold Mi.rngDownO at hg
  split at hg
  · rename_i hc
    obtain rfl := Option.some.inj hg
    have hl : (Mi.rngDown lo hi).length = (lo - hi).toNat := by unfold Mi.rngDown; rw [List.length_map, List.length_range]
    refine ⟨lo, hi, -1, (lo - hi).toNat, rfl, RgC.neg (by omega) (by omega) (by omega) (by omega), ?_⟩
    refine for_rangeC (D := { D with nx := nx }) (lo := lo) (c := -1) (n := (lo - hi).toNat) Pv h0 (fun i σ' H' hi' p => hs i _ σ' H' ?_ p) (fun σ' H' p => hd σ' H' (by rw [hl]; exact p))
    unfold Mi.rngDown
    rw [List.getElem?_map, List.getElem?_range hi']
    show some (lo - (i : Int)) = some (lo + (i : Int) * -1)
    congr 1
    omega
  · cases hg
end
end G
namespace G
open PySem PySem.Spec PyProof.Rows L2
/-- the def at one address is one def -/
theorem fn_law {P : Program} {w : World} {K : PySem.W.Frag} {mg : Str → Option Value} {x : Str} {k : Nat} {sp : Sp} {fa : Addr} (hfa : mg x = some (.ref fa)) {p : Str} (c : Cal P w K mg x [p] k sp) :
    ∃ fd : FuncData, (∀ (s : Shared) (v : Value), BindsTo s fd ⟨[v], []⟩ [(p, v)]) ∧ ∀ base : Heap, K.In base → base.Ns mainGlobals mg → FnOk P w K mg base CX0 k fa fd [p] sp := by
  obtain ⟨f, fd, g, _, b, ok⟩ := c.ex
  obtain rfl : fa = f := Value.ref.inj (Option.some.inj (hfa.symm.trans g))
  exact ⟨fd, fun s v => b s [v] rfl, fun base _ _ => ok base⟩
end G

namespace G
open PySem PySem.Spec PyProof.Rows L2
section
variable {K : PySem.W.Frag} {σ σ' : L2.St} {H : Hp} {F F1 F2 : List Addr} {ta tb te : TE} {v u x y w : V} {i j : Int} {t tu tt : TT} {b c a : Bool} {α β : Type} {τ : Ty α} {υ : Ty β} {Q : VK} {D : Ends} {t1 t2 : TS} {g : TG} {ws : List Nat}
/-! ### list comprehensions -/
/-- y goes to the list at D, then N -/
def AppG (D : Addr) (N : Hp → Prop) (y : V) (H : Hp) : Prop := ∃ acc, H D = some (.lst acc) ∧ acc.length < sizeLine ∧ N (upd H D (.lst (acc ++ [y])))
/-- one turn: the new list at D grows or not, then N -/
def TurnG (g : TG) (tt : TT) (te : TE) (ws : List Nat) (σ : L2.St) (D : Addr) (N : Hp → Prop) (x : V) (H : Hp) : Prop :=
  g x (wipe σ ws) H fun σ2 H2 => wipe σ2 ws = wipe σ ws ∧ tt σ2 H2 fun b H3 => if b = true then te σ2 H3 (AppG D N) else N H3
def CompG (J : It) (g : TG) (tt : TT) (te : TE) (ws : List Nat) (σ : L2.St) (H : Hp) (Q : VK) : Prop := ∀ D, H D = none → ∃ W : Nat → Nat → Hp → Prop, (∃ m, W 0 m (upd H D (.lst []))) ∧ ∀ i m H, W i m H →
  (J.stop i H ∧ Q (.ref D) H) ∨ (J.go i H ∧ ∃ N : Hp → Prop, (∀ H', N H' → ∃ m', m' < m ∧ W (i + 1) m' H') ∧ ∀ x H', J.yld i H x H' → TurnG g tt te ws σ D N x H')
theorem w_lc {wi : TI} (h : wi σ H fun J H1 => CompG J g tt te ws σ H1 Q) : tLc wi g tt te ws σ H Q := h
theorem w_yes {Q : Bool → Hp → Prop} (h : Q true H) : tYes σ H Q := h
theorem empty_lst {p : Addr} (np : H p = none) : (yLst τ).rep K (upd H p (.lst [])) [p] (.ref p) [] := ⟨p, [], rfl, rfl, upd_same, .nil⟩
theorem comp_by {J : It} (n : Nat) (Pv : Addr → Nat → Hp → Prop) (h0 : ∀ D H', H D = none → Chg [] H H' → (yLst τ).rep K H' [D] (.ref D) [] → Pv D 0 H')
    (hs : ∀ D i H', i < n → Pv D i H' → J.go i H' ∧ ∀ x H2, J.yld i H' x H2 → TurnG g tt te ws σ D (Pv D (i + 1)) x H2) (hd : ∀ D H', H D = none → Pv D n H' → J.stop n H' ∧ Q (.ref D) H') : CompG J g tt te ws σ H Q := by
  intro D hD
  refine ⟨fun i m H' => m = n - i ∧ i ≤ n ∧ Pv D i H', ⟨n, by omega, Nat.zero_le _, h0 D _ hD (Chg.lay hD trivial) (empty_lst hD)⟩, ?_⟩
  rintro i m H' ⟨rfl, hi, p⟩
  by_cases hlt : i < n
  · obtain ⟨h1, h2⟩ := hs D i H' hlt p
    exact .inr ⟨h1, Pv D (i + 1), fun H2 p' => ⟨n - (i + 1), by omega, rfl, hlt, p'⟩, h2⟩
  · obtain rfl : i = n := by omega
    exact .inl (hd D H' hD p)
theorem kc_lst {xs : List β} (r : (yLst υ).rep K H F v xs) (Pv : Addr → Nat → Hp → Prop) (h0 : ∀ D H', H D = none → Chg [] H H' → (yLst τ).rep K H' [D] (.ref D) [] → Pv D 0 H') (hl : ∀ D i H', Pv D i H' → (yLst υ).rep K H' F v xs)
    (hs : ∀ D (i : Nat) (x : β) (u : V) H', xs[i]? = some x → υ.rep K H' [] u x → Pv D i H' → TurnG g tt te ws σ D (Pv D (i + 1)) u H') (hd : ∀ D H', H D = none → Pv D xs.length H' → Q (.ref D) H') :
    ∃ a, v = .ref a ∧ (∃ xs, SqL K H a xs) ∧ CompG (Itl K a) g tt te ws σ H Q := by
  obtain ⟨a, vs, e, s, q⟩ := lst_sq r
  refine ⟨a, e, ⟨vs, s⟩, comp_by (K := K) (τ := τ) xs.length Pv h0 (fun D i H' hi p => ?_) (fun D H' hD p => ?_)⟩
  · obtain ⟨a', vs', e', s', q'⟩ := lst_sq (hl D i H' p)
    obtain rfl : a = a' := by rw [e] at e'; exact V.ref.inj e'
    obtain ⟨u, hu, ru⟩ := pr_get q' (List.getElem?_eq_getElem hi)
    refine ⟨⟨vs', u, s', hu⟩, fun x H2 y => ?_⟩
    obtain ⟨rfl, y⟩ := y
    obtain rfl : x = u := Option.some.inj ((y _ s').symm.trans hu)
    exact hs D i _ _ _ (List.getElem?_eq_getElem hi) ru p
  · obtain ⟨a', vs', e', s', q'⟩ := lst_sq (hl D _ H' p)
    obtain rfl : a = a' := by rw [e] at e'; exact V.ref.inj e'
    exact ⟨⟨vs', s', by rw [pr_len q']; exact Nat.le_refl _⟩, hd D H' hD p⟩
theorem kc_tup {xs : List β} (r : (yTupL υ).rep K H F v xs) (Pv : Addr → Nat → Hp → Prop) (h0 : ∀ D H', H D = none → Chg [] H H' → (yLst τ).rep K H' [D] (.ref D) [] → Pv D 0 H') (hl : ∀ D i H', Pv D i H' → (yTupL υ).rep K H' F v xs)
    (hs : ∀ D (i : Nat) (x : β) (u : V) H', xs[i]? = some x → υ.rep K H' [] u x → Pv D i H' → TurnG g tt te ws σ D (Pv D (i + 1)) u H') (hd : ∀ D H', H D = none → Pv D xs.length H' → Q (.ref D) H') :
    ∃ a, v = .ref a ∧ (∃ xs, SqT K H a xs) ∧ CompG (Itt K a) g tt te ws σ H Q := by
  obtain ⟨a, vs, e, s, q⟩ := tupl_sq r
  refine ⟨a, e, ⟨vs, s⟩, comp_by (K := K) (τ := τ) xs.length Pv h0 (fun D i H' hi p => ?_) (fun D H' hD p => ?_)⟩
  · obtain ⟨a', vs', e', s', q'⟩ := tupl_sq (hl D i H' p)
    obtain rfl : a = a' := by rw [e] at e'; exact V.ref.inj e'
    obtain ⟨u, hu, ru⟩ := pr_get q' (List.getElem?_eq_getElem hi)
    refine ⟨⟨vs', u, s', hu⟩, fun x H2 y => ?_⟩
    obtain ⟨rfl, y⟩ := y
    obtain rfl : x = u := Option.some.inj ((y _ s').symm.trans hu)
    exact hs D i _ _ _ (List.getElem?_eq_getElem hi) ru p
  · obtain ⟨a', vs', e', s', q'⟩ := tupl_sq (hl D _ H' p)
    obtain rfl : a = a' := by rw [e] at e'; exact V.ref.inj e'
    exact ⟨⟨vs', s', by rw [pr_len q']; exact Nat.le_refl _⟩, hd D H' hD p⟩
theorem kc_rng {lo hi : Int} (Pv : Addr → Nat → Hp → Prop) (h0 : ∀ D H', H D = none → Chg [] H H' → (yLst τ).rep K H' [D] (.ref D) [] → Pv D 0 H')
    (hs : ∀ D (i : Nat) (x : Int) H', (Mi.rng lo hi)[i]? = some x → Pv D i H' → TurnG g tt te ws σ D (Pv D (i + 1)) (.int x) H') (hd : ∀ D H', H D = none → Pv D (Mi.rng lo hi).length H' → Q (.ref D) H') :
    CompG (Itr lo (hi - lo).toNat) g tt te ws σ H Q := by
  refine comp_by (K := K) (τ := τ) (hi - lo).toNat Pv h0 (fun D i H' hi' p => ⟨hi', fun x H2 y => ?_⟩) (fun D H' hD p => ⟨Nat.le_refl _, hd D H' hD (by rw [rng_len]; exact p)⟩)
  obtain ⟨rfl, rfl⟩ := y
  exact hs D i _ _ (rng_at hi') p
theorem kc_rng1 {hi : Int} {xs : List Int} (hg : Mi.rngO 0 hi = some xs) (Pv : Addr → Nat → Hp → Prop) (h0 : ∀ D H', H D = none → Chg [] H H' → (yLst τ).rep K H' [D] (.ref D) [] → Pv D 0 H')
    (hs : ∀ D (i : Nat) (x : Int) H', xs[i]? = some x → Pv D i H' → TurnG g tt te ws σ D (Pv D (i + 1)) (.int x) H') (hd : ∀ D H', H D = none → Pv D xs.length H' → Q (.ref D) H') :
    ∃ j : Int, [V.int hi] = [.int j] ∧ -(2 ^ 62) ≤ j ∧ j < 2 ^ 62 ∧ CompG (Itr 0 j.toNat) g tt te ws σ H Q := by
  obtain ⟨rfl, _, h1, h2⟩ := rngO_some hg
  refine ⟨hi, rfl, by omega, by omega, ?_⟩
  have e : hi.toNat = (hi - 0).toNat := by rw [Int.sub_zero]
  rw [e]
  exact kc_rng (K := K) (τ := τ) Pv h0 hs hd
theorem kc_rng2 {lo hi : Int} {xs : List Int} (hg : Mi.rngO lo hi = some xs) (Pv : Addr → Nat → Hp → Prop) (h0 : ∀ D H', H D = none → Chg [] H H' → (yLst τ).rep K H' [D] (.ref D) [] → Pv D 0 H')
    (hs : ∀ D (i : Nat) (x : Int) H', xs[i]? = some x → Pv D i H' → TurnG g tt te ws σ D (Pv D (i + 1)) (.int x) H') (hd : ∀ D H', H D = none → Pv D xs.length H' → Q (.ref D) H') :
    ∃ i j : Int, [V.int lo, V.int hi] = [.int i, .int j] ∧ (-(2 ^ 62) ≤ i ∧ i < 2 ^ 62 ∧ -(2 ^ 62) ≤ j ∧ j < 2 ^ 62) ∧ CompG (Itr i (j - i).toNat) g tt te ws σ H Q := by
  obtain ⟨rfl, h1, h2⟩ := rngO_some hg
  exact ⟨lo, hi, rfl, by omega, kc_rng (K := K) (τ := τ) Pv h0 hs hd⟩
/-- the item is put to the new list -/
theorem e_app {D : Addr} {N : Hp → Prop} {xs ys : List α} {d : α} (r : (yLst τ).rep K H [D] (.ref D) xs) (ru : τ.rep K H [] u d) (hm : Mi.app xs d = some ys) (k : ∀ H', Chg [D] H H' → (yLst τ).rep K H' [D] (.ref D) ys → N H') :
    AppG D N u H := by
  obtain ⟨p, vs, e, f, g, q⟩ := r
  obtain rfl : D = p := V.ref.inj e
  unfold Mi.app at hm
  split at hm
  · rename_i hz
    cases hm
    have c : Chg [D] H (upd H D (.lst (vs ++ [u]))) := Chg.wr g (fun z => z)
    exact ⟨vs, g, Nat.lt_of_lt_of_le (by rw [pr_len q]; exact hz) line_big, k _ c ⟨D, _, rfl, rfl, upd_same, pr_app (Paired.mapP q fun _ _ z => Ty.fz z c) (.cons (Ty.fz ru c) .nil)⟩⟩
  · cases hm
/-! ### + of lists, slices, list(..), tuple(..) -/
theorem w_cat {xs ys zs : List α} (r : (yLst τ).rep K H F1 v xs) (q : (yLst τ).rep K H F2 u ys) (hm : Mi.cat xs ys = some zs) (k : ∀ p H', H p = none → Chg [] H H' → (yLst τ).rep K H' [p] (.ref p) zs → Q (.ref p) H') : rCat v u H Q := by
  obtain ⟨p, vs, rfl, rfl, g, r1⟩ := r
  obtain ⟨p2, us, rfl, rfl, g2, r2⟩ := q
  unfold Mi.cat at hm
  split at hm
  · rename_i hz
    cases hm
    refine ⟨p, p2, vs, us, rfl, rfl, g, g2, sz (by rw [pr_len r1, pr_len r2]; exact hz), fun n nn => k n _ nn (Chg.lay nn trivial) ⟨n, _, rfl, rfl, upd_same, ?_⟩⟩
    exact Paired.mapP (pr_app r1 r2) fun _ _ z => Ty.ex z (Chg.lay nn trivial)
  · cases hm
theorem w_sl {r : V → Option Int → Option Int → Hp → VK → Prop} {tl th : TO} (h : te σ H fun x H1 => tl σ H1 fun l H2 => th σ H2 fun u H3 => r x l u H3 Q) : tSl r te tl th σ H Q := h
theorem w_pon {Q : Option Int → Hp → Prop} (h : Q none H) : tNoPart σ H Q := h
theorem w_pos {Q : Option Int → Hp → Prop} (h : te σ H fun x H1 => ∃ i, x = .int i ∧ Q (some i) H1) : tPart te σ H Q := h
theorem sl_l {X : Cx} {K : PySem.W.Frag} (e : X.K = K := by rfl) : SlR X (rSlL K) := by subst e; exact sl_list
theorem cut_eq {α : Type} (xs : List α) (lo hi : Option Int) : (xs.drop (HT.sIx xs.length 0 lo)).take (HT.sIx xs.length xs.length hi - HT.sIx xs.length 0 lo) = Mi.cut xs lo hi := by
  have e : ∀ n d o, HT.sIx n d o = Mi.sIx n d o := fun n d o => by cases o <;> rfl
  unfold Mi.cut
  rw [e, e]
theorem pr_cut {R : V → α → Prop} {vs : List V} {xs : List α} (r : Paired R vs xs) (lo hi : Option Int) : Paired R (cutV vs lo hi) (Mi.cut xs lo hi) := by
  rw [← cut_eq]
  unfold cutV
  rw [pr_len r]
  exact pr_take _ (pr_drop _ r)
theorem w_cutL {xs : List α} {lo hi : Option Int} (r : (yLst τ).rep K H F v xs) (k : ∀ p H', H p = none → Chg [] H H' → (yLst τ).rep K H' [p] (.ref p) (Mi.cut xs lo hi) → Q (.ref p) H') : rSlL K v lo hi H Q := by
  obtain ⟨p, vs, rfl, s, q⟩ := lst_sq r
  refine ⟨p, vs, rfl, s, fun n nn => k n _ nn (Chg.lay nn trivial) ⟨n, _, rfl, rfl, upd_same, ?_⟩⟩
  exact Paired.mapP (pr_cut q lo hi) fun _ _ z => Ty.ex z (Chg.lay nn trivial)
def rListQ (K : PySem.W.Frag) : List V → Hp → VK → Prop := fun xs H Q => ∃ p ys, xs = [.ref p] ∧ (SqL K H p ys ∨ SqT K H p ys) ∧ ∀ l, H l = none → Q (.ref l) (upd H l (.lst ys))
def rTupleQ (K : PySem.W.Frag) : List V → Hp → VK → Prop := fun xs H Q => ∃ p ys, xs = [.ref p] ∧ ((SqL K H p ys ∧ ∀ l, H l = none → Q (.ref l) (upd H l (.tup ys))) ∨ (SqT K H p ys ∧ Q (.ref p) H))
theorem cl_list {X : Cx} {K : PySem.W.Frag} (e : X.K = K := by rfl) : CallR X (.type "list") (rListQ K) := by subst e; exact call_list_of
theorem cl_tuple {X : Cx} {K : PySem.W.Frag} (e : X.K = K := by rfl) : CallR X (.type "tuple") (rTupleQ K) := by subst e; exact call_tuple_of
theorem w_listL {xs : List α} (r : (yLst τ).rep K H F v xs) (k : ∀ p H', H p = none → Chg [] H H' → (yLst τ).rep K H' [p] (.ref p) xs → Q (.ref p) H') : rListQ K [v] H Q := by
  obtain ⟨p, vs, rfl, s, q⟩ := lst_sq r
  exact ⟨p, vs, rfl, .inl s, fun n nn => k n _ nn (Chg.lay nn trivial) ⟨n, _, rfl, rfl, upd_same, Paired.mapP q fun _ _ z => Ty.ex z (Chg.lay nn trivial)⟩⟩
theorem w_listT {xs : List α} (r : (yTupL τ).rep K H F v xs) (k : ∀ p H', H p = none → Chg [] H H' → (yLst τ).rep K H' [p] (.ref p) xs → Q (.ref p) H') : rListQ K [v] H Q := by
  obtain ⟨p, vs, rfl, s, q⟩ := tupl_sq r
  exact ⟨p, vs, rfl, .inr s, fun n nn => k n _ nn (Chg.lay nn trivial) ⟨n, _, rfl, rfl, upd_same, Paired.mapP q fun _ _ z => Ty.ex z (Chg.lay nn trivial)⟩⟩
theorem w_tupleL {xs : List α} (r : (yLst τ).rep K H F v xs) (k : ∀ v H', Chg [] H H' → (yTupL τ).rep K H' [] v xs → Q v H') : rTupleQ K [v] H Q := by
  obtain ⟨p, vs, rfl, s, q⟩ := lst_sq r
  exact ⟨p, vs, rfl, .inl ⟨s, fun n nn => k _ _ (Chg.lay nn trivial) ⟨n, _, rfl, rfl, .inl (.inl upd_same), Paired.mapP q fun _ _ z => Ty.ex z (Chg.lay nn trivial)⟩⟩⟩
theorem w_tupleT {xs : List α} (r : (yTupL τ).rep K H F v xs) (k : ∀ v H', Chg [] H H' → (yTupL τ).rep K H' [] v xs → Q v H') : rTupleQ K [v] H Q := by
  obtain ⟨p, vs, rfl, s, q⟩ := tupl_sq r
  exact ⟨p, vs, rfl, .inr ⟨s, k _ _ (Chg.refl H) ⟨p, vs, rfl, rfl, s, q⟩⟩⟩
/-! ### in -/
theorem op_in_q {X : Cx} {K : PySem.W.Frag} (e : X.K = K := by rfl) : OpR X (compareOp .In) (rIn K false) := by subst e; exact op_in_seq
theorem op_ni_q {X : Cx} {K : PySem.W.Frag} (e : X.K = K := by rfl) : OpR X (compareOp .NotIn) (rIn K true) := by subst e; exact op_notIn_seq
theorem flat_ints (ns : List Int) : (ns.map V.int).all flatV = true := by
  rw [List.all_eq_true]
  intro x hx
  obtain ⟨n, _, rfl⟩ := List.mem_map.mp hx
  rfl
theorem in_ints (n : Int) : ∀ ns : List Int, inV (.int n) (ns.map V.int) = ns.contains n
  | [] => rfl
  | m :: ns => by
    have ih := in_ints n ns
    unfold inV at ih ⊢
    rw [List.map_cons, List.any_cons, List.contains_cons, ih]
    congr 1
    show (m == n) = (n == m)
    by_cases h : m = n
    · subst h; rfl
    · rw [beq_eq_false_iff_ne.mpr h, beq_eq_false_iff_ne.mpr (Ne.symm h)]
theorem ints_sqL {xs : List Int} (r : (yLst yInt).rep K H F v xs) : ∃ a, v = .ref a ∧ SqL K H a (xs.map V.int) := by
  obtain ⟨a, vs, e, s, q⟩ := lst_sq r
  rw [ints_of q] at s
  exact ⟨a, e, s⟩
theorem ints_sqT {xs : List Int} (r : (yTupL yInt).rep K H F v xs) : ∃ a, v = .ref a ∧ SqT K H a (xs.map V.int) := by
  obtain ⟨a, vs, e, s, q⟩ := tupl_sq r
  rw [ints_of q] at s
  exact ⟨a, e, s⟩
theorem w_inL {xs : List Int} (r : (yLst yInt).rep K H F v xs) (k : Q (.bl (xs.contains i)) H) : rIn K false (.int i) v H Q := by
  obtain ⟨a, rfl, s⟩ := ints_sqL r
  exact ⟨a, _, rfl, .inl s, rfl, flat_ints xs, by rw [if_neg Bool.false_ne_true, in_ints]; exact k⟩
theorem w_niL {xs : List Int} (r : (yLst yInt).rep K H F v xs) (k : Q (.bl (!xs.contains i)) H) : rIn K true (.int i) v H Q := by
  obtain ⟨a, rfl, s⟩ := ints_sqL r
  exact ⟨a, _, rfl, .inl s, rfl, flat_ints xs, by rw [if_pos rfl, in_ints]; exact k⟩
theorem w_inT {xs : List Int} (r : (yTupL yInt).rep K H F v xs) (k : Q (.bl (xs.contains i)) H) : rIn K false (.int i) v H Q := by
  obtain ⟨a, rfl, s⟩ := ints_sqT r
  exact ⟨a, _, rfl, .inr s, rfl, flat_ints xs, by rw [if_neg Bool.false_ne_true, in_ints]; exact k⟩
theorem w_niT {xs : List Int} (r : (yTupL yInt).rep K H F v xs) (k : Q (.bl (!xs.contains i)) H) : rIn K true (.int i) v H Q := by
  obtain ⟨a, rfl, s⟩ := ints_sqT r
  exact ⟨a, _, rfl, .inr s, rfl, flat_ints xs, by rw [if_pos rfl, in_ints]; exact k⟩
theorem val_inL {xs : List Int} (r : (yLst yInt).rep K H F v xs) (ha : Val ta σ H (.int i)) (hb : Val tb σ H v) : Val (tOp (rIn K false) ta tb) σ H (.bl (xs.contains i)) := val_op ha hb fun Q q => w_inL r q
theorem val_niL {xs : List Int} (r : (yLst yInt).rep K H F v xs) (ha : Val ta σ H (.int i)) (hb : Val tb σ H v) : Val (tOp (rIn K true) ta tb) σ H (.bl (!xs.contains i)) := val_op ha hb fun Q q => w_niL r q
theorem val_inT {xs : List Int} (r : (yTupL yInt).rep K H F v xs) (ha : Val ta σ H (.int i)) (hb : Val tb σ H v) : Val (tOp (rIn K false) ta tb) σ H (.bl (xs.contains i)) := val_op ha hb fun Q q => w_inT r q
theorem val_niT {xs : List Int} (r : (yTupL yInt).rep K H F v xs) (ha : Val ta σ H (.int i)) (hb : Val tb σ H v) : Val (tOp (rIn K true) ta tb) σ H (.bl (!xs.contains i)) := val_op ha hb fun Q q => w_niT r q
end
end G

namespace G
open PySem PySem.Spec PyProof.Rows L2
/-! ### instances -/
theorem lookup_zip {f : Str} : ∀ {ns : List Str} {vs : List V} {n : Nat} {u : V}, ns.Nodup → ns[n]? = some f → vs[n]? = some u → (ns.zip vs).lookup f = some u
  | [], _, _, _, _, h, _ => by simp at h
  | _ :: _, [], _, _, _, _, h => by simp at h
  | m :: ns, w :: vs, 0, u, nd, h, h2 => by
    obtain rfl : m = f := by simpa using h
    obtain rfl : w = u := by simpa using h2
    simp [List.lookup]
  | m :: ns, w :: vs, n + 1, u, nd, h, h2 => by
    have hne : (f == m) = false := by
      rw [beq_eq_false_iff_ne]
      intro e
      subst e
      have h3 : ns[n]? = some f := by simpa using h
      exact (List.nodup_cons.mp nd).1 (List.mem_of_getElem? h3)
    rw [List.zip_cons_cons]
    simp only [List.lookup, hne]
    exact lookup_zip (List.nodup_cons.mp nd).2 (by simpa using h) (by simpa using h2)
def yObj {α : Type} (C : Addr) (ns : List Str) (ts : Tys α) : Ty α where
  rep K H F v d := F = [] ∧ ∃ a dx vs, v = .ref a ∧ H a = some (.ins C dx (ns.zip vs)) ∧ done (ns.zip vs) = true ∧ ts.rep K H [] vs d
  keep {K H H' F v d} h k := by
    obtain ⟨e, a, dx, vs, e2, g, f, r⟩ := h
    exact ⟨e, a, dx, vs, e2, k a _ g (.inr f), f, ts.keep r fun b o hb z => k b o hb (z.elim (fun y => nomatch y) .inr)⟩
  dom {K H F v d} h b m := by rw [h.1] at m; cases m
/-- an instance that its __init__ has begun: the attributes ns hold the values ws -/
def yPart (C dx : Addr) (ns : List Str) : Ty (List V) where
  rep K H F v ws := ∃ x, v = .ref x ∧ F = [x] ∧ H x = some (.ins C dx (ns.zip ws)) ∧ done (ns.zip ws) = false
  keep {K H H' F v ws} h k := by
    obtain ⟨x, e, rfl, g, f⟩ := h
    exact ⟨x, e, rfl, k x _ g (.inl (List.mem_singleton.mpr rfl)), f⟩
  dom {K H F v ws} h b m := by
    obtain ⟨x, e, rfl, g, f⟩ := h
    rw [List.mem_singleton] at m; subst m
    exact ⟨_, g, fun z => by have z' : done _ = true := z; rw [f] at z'; cases z'⟩
section
variable {K : PySem.W.Frag} {σ σ' : L2.St} {H : Hp} {F : List Addr} {ta tb te tv : TE} {v u x y w : V} {α β : Type} {τ : Ty α} {Q : VK} {D : Ends} {t1 t2 : TS} {C dx p : Addr} {ns : List Str} {f : Str}
theorem fz_obj {ts : Tys α} : Fz (yObj C ns ts) := fun h => h.1
theorem nn_obj {ts : Tys α} {d : α} (r : (yObj C ns ts).rep K H F v d) : v ≠ .non := by obtain ⟨_, a, _, _, rfl, _⟩ := r; exact fun z => nomatch z
/-- o.f: what is asked of the value o -/
def FldG (K : PySem.W.Frag) (f : Str) (x : V) (H : Hp) (Q : VK) : Prop := ∃ a C dx fs v, x = .ref a ∧ H a = some (.ins C dx fs) ∧ Cls K C ∧ NoAttr K C f ∧ fs.lookup f = some v ∧ Q v H
theorem w_fld (h : ta σ H fun x H1 => FldG K f x H1 Q) : tFld K ta f σ H Q := h
theorem fld_obj {ts : Tys α} {n : Nat} {υ : Ty β} {pr : α → β} {d : α} (A : At ts n υ pr) (nd : ns.Nodup) (hn : ns[n]? = some f) (c : Cls K C) (na : NoAttr K C f) (r : (yObj C ns ts).rep K H F v d) :
    ∃ u, υ.rep K H [] u (pr d) ∧ (∀ {Q : VK}, Q u H → FldG K f v H Q) ∧ ∀ {σ : L2.St} {ta : TE}, Val ta σ H v → Val (tFld K ta f) σ H u := by
  obtain ⟨_, a, dx, vs, rfl, g, _, rs⟩ := r
  obtain ⟨u, F1, e, ru, sub⟩ := A rs
  have e1 : F1 = [] := by
    cases F1 with
    | nil => rfl
    | cons z zs => exact nomatch sub z (List.mem_cons_self ..)
  subst e1
  have k : ∀ {Q : VK}, Q u H → FldG K f (.ref a) H Q := fun q => ⟨a, C, dx, _, u, rfl, g, c, na, lookup_zip nd hn e, q⟩
  exact ⟨u, ru, k, fun ha Q q => ha _ (k q)⟩
theorem fld_part {ws : List V} {n : Nat} (nd : ns.Nodup) (hn : ns[n]? = some f) (hw : ws[n]? = some u) (c : Cls K C) (na : NoAttr K C f) (r : (yPart C dx ns).rep K H F v ws) (ha : Val ta σ H v) : Val (tFld K ta f) σ H u := by
  obtain ⟨a, rfl, _, g, _⟩ := r
  exact fun Q q => ha _ ⟨a, C, dx, _, u, rfl, g, c, na, lookup_zip nd hn hw, q⟩
/-- self.f = e -/
def SFldG (K : PySem.W.Frag) (f : Str) (y x : V) (H : Hp) (X : Hp → Prop) : Prop := ∃ a C dx fs, x = .ref a ∧ H a = some (.ins C dx fs) ∧ Cls K C ∧ NoAttr K C f ∧ fs.length < 1000 ∧ X (upd H a (.ins C dx (putF f y fs)))
theorem q_fld (h : tv σ H fun y H1 => ta σ H1 fun x H2 => SFldG K f y x H2 (t2 D σ)) : tSeq (sFld K ta tv f) t2 D σ H := h
theorem putF_zip {f : Str} {y : V} : ∀ {ns : List Str} {ws : List V}, f ∉ ns → ns.length = ws.length → putF f y (ns.zip ws) = (ns ++ [f]).zip (ws ++ [y])
  | [], [], _, _ => rfl
  | [], _ :: _, _, h => by simp at h
  | _ :: _, [], _, h => by simp at h
  | m :: ns, w :: ws, hf, h => by
    have hne : f ≠ m := fun e => hf (by rw [e]; exact List.mem_cons_self ..)
    have ih := putF_zip (f := f) (y := y) (ns := ns) (ws := ws) (fun z => hf (List.mem_cons_of_mem _ z)) (by simpa using h)
    rw [List.zip_cons_cons]
    show putF f y ((m, w) :: ns.zip ws) = _
    unfold putF
    split
    · rename_i e
      exact absurd (by simpa using e) (by first | exact hne | exact (Ne.symm hne))
    · rw [ih]; rfl
theorem m_fldP {ws : List V} {X : Hp → Prop} (r : (yPart C dx ns).rep K H F v ws) (c : Cls K C) (na : NoAttr K C f) (hf : f ∉ ns) (hl : ns.length = ws.length) (hs : ns.length < 900) (hd : done ((ns ++ [f]).zip (ws ++ [y])) = false)
    (k : ∀ H', Chg F H H' → (yPart C dx (ns ++ [f])).rep K H' F v (ws ++ [y]) → X H') : SFldG K f y v H X := by
  obtain ⟨a, rfl, rfl, g, nf⟩ := r
  have cc : Chg [a] H (upd H a (.ins C dx (putF f y (ns.zip ws)))) := Chg.wr g (fun z => by have z' : done _ = true := z; rw [nf] at z'; cases z') (fun _ _ _ z => by cases z; exact ⟨_, rfl⟩) (.inr ⟨_, g⟩)
  refine ⟨a, C, dx, _, rfl, g, c, na, by rw [List.length_zip, ← hl]; omega, k _ cc ⟨a, rfl, rfl, ?_, hd⟩⟩
  rw [upd_same, putF_zip hf hl]
theorem m_fldE {ws : List V} {X : Hp → Prop} {ts : Tys α} {d : α} (r : (yPart C dx ns).rep K H F v ws) (c : Cls K C) (na : NoAttr K C f) (hf : f ∉ ns) (hl : ns.length = ws.length) (hs : ns.length < 900) (hd : done ((ns ++ [f]).zip (ws ++ [y])) = true)
    (rs : ts.rep K H [] (ws ++ [y]) d) (k : ∀ H', Chg F H H' → (yObj C (ns ++ [f]) ts).rep K H' [] v d → X H') : SFldG K f y v H X := by
  obtain ⟨a, rfl, rfl, g, nf⟩ := r
  have cc : Chg [a] H (upd H a (.ins C dx (putF f y (ns.zip ws)))) := Chg.wr g (fun z => by have z' : done _ = true := z; rw [nf] at z'; cases z') (fun _ _ _ z => by cases z; exact ⟨_, rfl⟩) (.inr ⟨_, g⟩)
  refine ⟨a, C, dx, _, rfl, g, c, na, by rw [List.length_zip, ← hl]; omega, k _ cc ⟨rfl, a, dx, _, rfl, ?_, hd, ts.keep rs fun b o hb z => cc.keep b o hb (z.elim (fun y => nomatch y) .inr)⟩⟩
  rw [upd_same, putF_zip hf hl]
/-- C(..): the new instance -/
def MakeG (C : Addr) (sp : Sp) (E : XK) (vs : V → List V) (H : Hp) (Q : VK) : Prop := ∀ x dx, H x = none → H dx = none → dx ≠ x → sp (vs (.ref x)) (upd (upd H dx (.own x)) x (.ins C dx [])) (fun v H3 => v = .non ∧ Q (.ref x) H3) E
theorem make_chg {x : Addr} {fs : List (Str × V)} (nx : H x = none) (nd : H dx = none) (ne : dx ≠ x) : Chg [] H (upd (upd H dx (.own x)) x (.ins C dx fs)) := by
  refine ⟨fun b o h _ => ?_, fun b h => ?_, fun a C' d fs' h => ⟨fs', ?_⟩, fun b o h => ?_⟩
  · rw [upd_ne (ne_of_none h nx), upd_ne (ne_of_none h nd)]; exact h
  · by_cases e : b = x
    · subst e; exact nx
    · rw [upd_ne e] at h
      by_cases e2 : b = dx
      · subst e2; exact nd
      · rw [upd_ne e2] at h; exact h
  · rw [upd_ne (ne_of_none h nx), upd_ne (ne_of_none h nd)]; exact h
  · by_cases e : b = x
    · subst e; rw [upd_same] at h; cases h; exact .inr (.inl nd)
    · rw [upd_ne e] at h
      by_cases e2 : b = dx
      · subst e2; rw [upd_same] at h; cases h; exact .inr ⟨_, _, upd_same⟩
      · rw [upd_ne e2] at h; exact .inl h
theorem make_new {x : Addr} (nx : H x = none) (nd : H dx = none) (ne : dx ≠ x) : Chg [] H (upd (upd H dx (.own x)) x (.ins C dx [])) ∧ (yPart C dx []).rep K (upd (upd H dx (.own x)) x (.ins C dx [])) [x] (.ref x) [] :=
  ⟨make_chg nx nd ne, x, rfl, rfl, upd_same, rfl⟩
theorem tInt_tup {d : Int} : True := trivial
end
end G
namespace G
open PySem PySem.Spec PyProof.Rows L2
/-- what the top leaves of a class -/
structure Tx (K : PySem.W.Frag) (mg : Str → Option Value) (C : Addr) (x : Str) (ns : List Str) : Prop where
  cls : Cls K C
  mgC : mg x = some (.ref C)
  na : ∀ f ∈ ns, NoAttr K C f
structure CalM (P : Program) (w : World) (K : PySem.W.Frag) (mg : Str → Option Value) (C : Addr) (m : Str) (ps : List Str) (k : Nat) (sp : Sp) : Prop where
  ex : ∃ f fd, Meth K C m f ∧ (∀ (s : Shared) (us : List Value), us.length = ps.length → BindsTo s fd ⟨us, []⟩ (ps.zip us)) ∧ ∀ base : Heap, FnOk P w K mg base CX0 k f fd ps sp
structure CalI (P : Program) (w : World) (K : PySem.W.Frag) (mg : Str → Option Value) (C : Addr) (qual : Str) (st : Stmt) (kws : List (Str × V)) (ps : List Str) (k : Nat) (sp : Sp) : Prop where
  ex : ∃ f fd, Mk K C f ∧ FunD K "__init__" qual (defArgs st) (defBody st) (defScope st) [] kws f fd ∧ ∀ base : Heap, FnOk P w K mg base CX0 k f fd ps sp
structure DfnM (K : PySem.W.Frag) (C : Addr) (m qual : Str) (st : Stmt) : Prop where
  ex : ∃ f fd, Fun K m qual st f fd ∧ Meth K C m f
structure DfnI (K : PySem.W.Frag) (C : Addr) (qual : Str) (st : Stmt) (kws : List (Str × V)) : Prop where
  ex : ∃ f fd, FunD K "__init__" qual (defArgs st) (defBody st) (defScope st) [] kws f fd ∧ Mk K C f
section
variable {X : Cx} {K : PySem.W.Frag} {σ : L2.St} {H : Hp} {F : List Addr} {ta te : TE} {v : V} {α : Type} {Q : VK} {C : Addr} {ns : List Str} {m : Str}
def MethG (C : Addr) (m : Str) (x : V) (H : Hp) (R : Prop) : Prop := ∃ a dx fs, x = .ref a ∧ H a = some (.ins C dx fs) ∧ fs.lookup m = none ∧ R
theorem w_meth {sp : Sp} {E : XK} {ts : TA} (h : ta σ H fun x H1 => MethG C m x H1 (ts σ H1 fun vs H2 => sp (x :: (vs ++ [])) H2 Q E)) : tMeth C m sp [] E ta ts σ H Q := h
theorem lookup_none {f : Str} : ∀ {ns : List Str} {vs : List V}, f ∉ ns → (ns.zip vs).lookup f = none
  | [], _, _ => rfl
  | _ :: _, [], _ => rfl
  | m :: ns, w :: vs, h => by
    have hne : (f == m) = false := by
      rw [beq_eq_false_iff_ne]
      exact fun e => h (by rw [e]; exact List.mem_cons_self ..)
    rw [List.zip_cons_cons]
    simp only [List.lookup, hne]
    exact lookup_none fun z => h (List.mem_cons_of_mem _ z)
theorem meth_obj {ts : Tys α} {d : α} {R : Prop} (r : (yObj C ns ts).rep K H F v d) (hm : m ∉ ns) (k : R) : MethG C m v H R := by
  obtain ⟨_, a, dx, vs, rfl, g, _, _⟩ := r
  exact ⟨a, dx, _, rfl, g, lookup_none hm, k⟩
theorem w_makeK {n k : Nat} {sp : Sp} {gV : List V → List V → List V} {E : XK} {t tk : TA} (h : t σ H fun vs H1 => tk σ H1 fun zs H2 => vs.length = n ∧ zs.length = k ∧ MakeG C sp E (fun x => gV (x :: vs) zs) H2 Q) : tMakeK C n k sp gV E t tk σ H Q := h
theorem w_mk {sp : Sp} {E : XK} {t : TA} {dvs : List V} (h : t σ H fun vs H1 => MakeG C sp E (fun x => x :: (vs ++ dvs)) H1 Q) : tMake C sp dvs E t σ H Q := h
theorem pe_cm {ps : List Str} {j k : Nat} {sp : Sp} {pl : Sem Bool} {apos pos : Pos} {o e : Expr} {es : List Expr} {t : TA} (he : PE X o ta) (c : Cls X.K C) (M : CalM X.prog X.w X.K X.mg C m ps j sp) (hr : Room k X.A) (ha : PA X (e :: es) t) (hj : j ≤ k := by decide)
    (h1 : ∀ {f : Addr} {fd : FuncData}, FnOk X.prog X.w X.K X.mg X.base CX0 j f fd ps sp → Meth X.K C m f → Binds X.K fd ps [] → Room j X.A → PE X (.Call (.Attribute o m apos) (e :: es) [] pos) (tMeth C m sp [] E0 ta t)) : PE X (.Call (.Attribute o m apos) (e :: es) [] pos) (tMeth C m sp [] E0 ta t) := by
  obtain ⟨f, fd, hm, b, F⟩ := M.ex
  exact h1 (F X.base) hm (fun s us _ hl => by rw [List.append_nil] at hl ⊢; exact b s us hl) (hr.mono hj)
end
end G

namespace G
open PySem PySem.Spec PyProof.Rows L2
section
variable {K : PySem.W.Frag} {σ σ' : L2.St} {H : Hp} {F F1 F2 Fu : List Addr} {ta tb te : TE} {v u x y : V} {i j : Int} {t tu tt : TT} {b c a : Bool} {α β : Type} {τ : Ty α} {υ : Ty β} {Q : VK} {D : Ends} {t1 t2 : TS} {g : TG} {ws : List Nat}
/-! ### shifts -/
theorem shlC {i j r : Int} (h : Mi.shl i j = some r) : CPow i j ∧ i * 2 ^ j.toNat = r := by
  unfold Mi.shl at h
  split at h
  · rename_i hc
    exact ⟨⟨hc.1, by omega, by omega⟩, Option.some.inj h⟩
  · cases h
theorem shrC {i j r : Int} (h : Mi.shr i j = some r) : 0 ≤ j ∧ i / 2 ^ j.toNat = r := by
  unfold Mi.shr at h
  split at h
  · exact ⟨by assumption, Option.some.inj h⟩
  · cases h
theorem val_shlO {r : Int} (ha : Val ta σ H (.int i)) (hb : Val tb σ H (.int j)) (h : Mi.shl i j = some r) : Val (tOp (rI CPow fun i j => .int (i * 2 ^ j.toNat)) ta tb) σ H (.int r) := val_is (val_I (g := fun i j => .int (i * 2 ^ j.toNat)) ha hb (shlC h).1) (by rw [← (shlC h).2])
theorem val_shrO {r : Int} (ha : Val ta σ H (.int i)) (hb : Val tb σ H (.int j)) (h : Mi.shr i j = some r) : Val (tOp (rI (fun _ j => 0 ≤ j) fun i j => .int (i / 2 ^ j.toNat)) ta tb) σ H (.int r) := val_is (val_I (g := fun i j => .int (i / 2 ^ j.toNat)) ha hb (shrC h).1) (by rw [← (shrC h).2])
theorem w_shl {r : Int} (h : Mi.shl i j = some r) (k : Q (.int r) H) : rI CPow (fun i j => .int (i * 2 ^ j.toNat)) (.int i) (.int j) H Q := ⟨i, j, rfl, rfl, (shlC h).1, by show Q (.int (i * 2 ^ j.toNat)) H; rw [(shlC h).2]; exact k⟩
theorem w_shr {r : Int} (h : Mi.shr i j = some r) (k : Q (.int r) H) : rI (fun _ j => 0 ≤ j) (fun i j => .int (i / 2 ^ j.toNat)) (.int i) (.int j) H Q := ⟨i, j, rfl, rfl, (shrC h).1, by show Q (.int (i / 2 ^ j.toNat)) H; rw [(shrC h).2]; exact k⟩
/-! ### sorted -/
theorem cl_sortedL {X : Cx} {K : PySem.W.Frag} (e : X.K = K := by rfl) : CallR X (.builtin "sorted") (rSortedI K) := by subst e; exact cr_sortedI
theorem sortI_perm (xs : List Int) : (Mi.sortI xs).Perm xs := List.mergeSort_perm _ _
theorem sortI_sorted (xs : List Int) : (Mi.sortI xs).Pairwise (· ≤ ·) := by
  have h := List.pairwise_mergeSort (le := fun a b : Int => decide (a ≤ b)) (fun a b c h1 h2 => by simp at *; omega) (fun a b => by simp; omega) xs
  exact List.Pairwise.imp (fun h => by simpa using h) h
theorem sorted_unique : ∀ {xs ys : List Int}, xs.Perm ys → xs.Pairwise (· ≤ ·) → ys.Pairwise (· ≤ ·) → xs = ys
  | [], ys, p, _, _ => (List.Perm.nil_eq p)
  | x :: xs, [], p, _, _ => absurd p.length_eq (by simp)
  | x :: xs, y :: ys, p, h1, h2 => by
    have hx := List.pairwise_cons.mp h1
    have hy := List.pairwise_cons.mp h2
    have e : x = y := by
      have a1 : y ∈ x :: xs := p.mem_iff.mpr (List.mem_cons_self ..)
      have a2 : x ∈ y :: ys := p.mem_iff.mp (List.mem_cons_self ..)
      rcases List.mem_cons.mp a1 with r | r
      · exact r.symm
      · rcases List.mem_cons.mp a2 with q | q
        · exact q
        · have := hx.1 y r
          have := hy.1 x q
          omega
    subst e
    rw [sorted_unique (List.Perm.cons_inv p) hx.2 hy.2]
theorem w_sortedL {xs : List Int} (r : (yLst yInt).rep K H F v xs) (k : ∀ p H', H p = none → Chg [] H H' → (yLst yInt).rep K H' [p] (.ref p) (Mi.sortI xs) → Q (.ref p) H') : rSortedI K [v] H Q := by
  obtain ⟨p, rfl, s⟩ := ints_sqL r
  refine ⟨p, xs, rfl, s, fun ns q pm so nq => ?_⟩
  rw [sorted_unique (pm.trans (sortI_perm xs).symm) so (sortI_sorted xs)]
  exact k q _ nq (Chg.lay nq trivial) ⟨q, _, rfl, rfl, upd_same, ints_mk _⟩
/-! ### sets of ints -/
def ySet (w : World) : Ty (List Int) where
  rep K H F v xs := ∃ a, v = .ref a ∧ F = [a] ∧ H a = some (SetO w a (fun i => xs.contains i) xs.length)
  keep {K H H' F v xs} h k := by
    obtain ⟨a, e, rfl, g⟩ := h
    exact ⟨a, e, rfl, k a _ g (.inl (List.mem_singleton.mpr rfl))⟩
  dom {K H F v xs} h b m := by
    obtain ⟨a, e, rfl, g⟩ := h
    rw [List.mem_singleton] at m; subst m
    exact ⟨_, g, fun z => z⟩
theorem set_nc {w : World} {H H' : Hp} {a : Addr} {S : Int → Bool} {n : Nat} : NCo H H' a (SetO w a S n) := fun h ob r e v z => by
  obtain ⟨o, es, ep, t, ho, _, hd, _⟩ := r
  rw [e] at ho; cases ho
  rw [z] at hd; cases hd
theorem cl_set0 {X : Cx} {w : World} (e : X.w = w := by rfl) : CallR X (.type "set") (rSet0 w) := by subst e; exact cr_set0
theorem w_set0 {w : World} (k : ∀ p H', H p = none → Chg [] H H' → (ySet w).rep K H' [p] (.ref p) [] → Q (.ref p) H') : rSet0 w [] H Q := ⟨rfl, fun p np => k p _ np (Chg.new' np set_nc) ⟨p, rfl, rfl, upd_same⟩⟩
theorem op_in_s {X : Cx} {w : World} (e : X.w = w := by rfl) : OpR X (compareOp .In) (rSIn w) := by subst e; exact or_sin
theorem op_ni_s {X : Cx} {w : World} (e : X.w = w := by rfl) : OpR X (compareOp .NotIn) (rSNotIn w) := by subst e; exact or_snotin
theorem w_inS {w : World} {xs : List Int} (r : (ySet w).rep K H F v xs) (k : Q (.bl (xs.contains i)) H) : rSIn w (.int i) v H Q := by
  obtain ⟨p, rfl, rfl, g⟩ := r
  exact ⟨i, p, _, _, rfl, rfl, g, k⟩
theorem w_niS {w : World} {xs : List Int} (r : (ySet w).rep K H F v xs) (k : Q (.bl (!xs.contains i)) H) : rSNotIn w (.int i) v H Q := by
  obtain ⟨p, rfl, rfl, g⟩ := r
  exact ⟨i, p, _, _, rfl, rfl, g, k⟩
theorem val_inS {w : World} {xs : List Int} (r : (ySet w).rep K H F v xs) (ha : Val ta σ H (.int i)) (hb : Val tb σ H v) : Val (tOp (rSIn w) ta tb) σ H (.bl (xs.contains i)) := val_op ha hb fun Q q => w_inS r q
theorem val_niS {w : World} {xs : List Int} (r : (ySet w).rep K H F v xs) (ha : Val ta σ H (.int i)) (hb : Val tb σ H v) : Val (tOp (rSNotIn w) ta tb) σ H (.bl (!xs.contains i)) := val_op ha hb fun Q q => w_niS r q
theorem w_sadd {w : World} {to : TE} {ts : TA} (h : to σ H fun x H1 => (∃ a S n, x = V.ref a ∧ H1 a = some (SetO w a S n)) ∧ ts σ H1 fun xs H2 => rSAdd w x xs H2 Q) : tSAdd w to ts σ H Q := h
theorem tyv_set {w : World} {xs : List Int} (r : (ySet w).rep K H F v xs) : ∃ a S n, v = V.ref a ∧ H a = some (SetO w a S n) := by
  obtain ⟨p, rfl, rfl, g⟩ := r
  exact ⟨p, _, _, rfl, g⟩
theorem m_sadd {w : World} {xs ys : List Int} (r : (ySet w).rep K H F v xs) (hm : Mi.sadd xs i = some ys) (k : ∀ H', Chg F H H' → (ySet w).rep K H' F v ys → Q .non H') : rSAdd w v [.int i] H Q := by
  obtain ⟨p, rfl, rfl, g⟩ := r
  unfold Mi.sadd at hm
  split at hm
  · rename_i hz
    obtain rfl := Option.some.inj hm
    refine ⟨p, i, _, _, rfl, rfl, g, by show xs.length + 1 < 4096; omega, ?_⟩
    refine k _ (Chg.wr g (fun z => z) (hn := set_nc)) ⟨p, rfl, rfl, ?_⟩
    rw [upd_same]
    congr 1
    by_cases hc : xs.contains i = true
    · have e1 : (fun j => xs.contains j || decide (j = i)) = fun j => xs.contains j := by
        funext j
        by_cases hj : j = i
        · subst hj; rw [hc]; rfl
        · rw [decide_eq_false hj, Bool.or_false]
      rw [if_pos hc, if_pos hc]
      show SetO w p (fun j => xs.contains j || decide (j = i)) _ = _
      rw [e1]
    · rw [if_neg hc, if_neg hc]
      have e1 : (fun j => xs.contains j || decide (j = i)) = fun j => (xs ++ [i]).contains j := by
        funext j
        rw [List.contains_eq_mem, List.contains_eq_mem]
        by_cases hj : j = i
        · subst hj; simp
        · simp [hj]
      show SetO w p (fun j => xs.contains j || decide (j = i)) _ = _
      rw [e1, List.length_append]
      rfl
  · cases hm
/-! ### lists by their methods -/
theorem m_clear {xs : List α} (r : (yLst τ).rep K H F v xs) (k : ∀ H', Chg F H H' → (yLst τ).rep K H' F v [] → Q .non H') : rClear v [] H Q := by
  obtain ⟨p, vs, rfl, rfl, g, q⟩ := r
  exact ⟨p, vs, rfl, rfl, g, k _ (Chg.wr g (fun z => z)) ⟨p, [], rfl, rfl, upd_same, .nil⟩⟩
theorem pr_rev {R : V → α → Prop} : ∀ {vs : List V} {xs : List α}, Paired R vs xs → Paired R vs.reverse xs.reverse
  | _, _, .nil => .nil
  | _, _, .cons r t => by
    rw [List.reverse_cons, List.reverse_cons]
    exact pr_app (pr_rev t) (.cons r .nil)
theorem m_reverse {xs : List α} (r : (yLst τ).rep K H F v xs) (k : ∀ H', Chg F H H' → (yLst τ).rep K H' F v xs.reverse → Q .non H') : rReverse v [] H Q := by
  obtain ⟨p, vs, rfl, rfl, g, q⟩ := r
  have c : Chg [p] H (upd H p (.lst vs.reverse)) := Chg.wr g (fun z => z)
  exact ⟨p, vs, rfl, rfl, g, k _ c ⟨p, _, rfl, rfl, upd_same, Paired.mapP (pr_rev q) fun _ _ z => Ty.fz z c⟩⟩
theorem pr_dropLast {R : V → α → Prop} {vs : List V} {xs : List α} (r : Paired R vs xs) : Paired R vs.dropLast xs.dropLast := by
  rw [List.dropLast_eq_take, List.dropLast_eq_take, pr_len r]
  exact pr_take _ r
theorem pr_erase {R : V → α → Prop} {vs : List V} {xs : List α} (r : Paired R vs xs) (n : Nat) : Paired R (vs.eraseIdx n) (xs.eraseIdx n) := by
  rw [List.eraseIdx_eq_take_drop_succ, List.eraseIdx_eq_take_drop_succ]
  exact pr_app (pr_take _ r) (pr_drop _ r)
theorem m_pop {xs : List α} {p : α × List α} (r : (yLst τ).rep K H F v xs) (hm : Mi.popL xs = some p) (k : ∀ u H', Chg F H H' → τ.rep K H' [] u p.1 → (yLst τ).rep K H' F v p.2 → Q u H') : rPop v [] H Q := by
  obtain ⟨l, vs, rfl, rfl, g, q⟩ := r
  unfold Mi.popL at hm
  obtain ⟨y, hy, hm⟩ := Mi.bnd hm
  obtain rfl := Option.some.inj hm
  obtain ⟨u, hu, ru⟩ := pr_get q hy
  have c : Chg [l] H (upd H l (.lst vs.dropLast)) := Chg.wr g (fun z => z)
  exact ⟨l, vs, u, rfl, rfl, g, by rw [pr_len q]; exact hu, k u _ c (Ty.fz ru c) ⟨l, _, rfl, rfl, upd_same, Paired.mapP (pr_dropLast q) fun _ _ z => Ty.fz z c⟩⟩
theorem m_popAt {xs : List α} {p : α × List α} (r : (yLst τ).rep K H F v xs) (hm : Mi.popAt xs i = some p) (hb : xs.length ≤ Mi.big) (k : ∀ u H', Chg F H H' → τ.rep K H' [] u p.1 → (yLst τ).rep K H' F v p.2 → Q u H') : rPopAt v [.int i] H Q := by
  obtain ⟨l, vs, rfl, rfl, g, q⟩ := r
  unfold Mi.popAt at hm
  obtain ⟨j, hj, hm⟩ := Mi.bnd hm
  obtain ⟨y, hy, hm⟩ := Mi.bnd hm
  obtain rfl := Option.some.inj hm
  obtain ⟨u, hu, ru⟩ := pr_get q hy
  have c : Chg [l] H (upd H l (.lst (vs.eraseIdx j))) := Chg.wr g (fun z => z)
  obtain ⟨h1, h2, h3, h4⟩ := ixN_seq (show L2.ixN vs.length i = some j by rw [pr_len q]; exact hj)
  have hb2 : vs.length ≤ 1000000 := by rw [pr_len q]; exact hb
  exact ⟨l, vs, i, j, u, rfl, rfl, g, by omega, by omega, h1, hu, k u _ c (Ty.fz ru c) ⟨l, _, rfl, rfl, upd_same, Paired.mapP (pr_erase q j) fun _ _ z => Ty.fz z c⟩⟩
end
end G

namespace G
open PySem PySem.Spec PyProof.Rows L2
/-! ### a list whose items may hold lists -/
def Sub (F G : List Addr) : Prop := ∀ b ∈ F, b ∈ G
def yLsg {α : Type} (τ : Ty α) : Ty (List α) where
  rep K H F v xs := ∃ a vs G, v = .ref a ∧ F = a :: G ∧ a ∉ G ∧ H a = some (.lst vs) ∧ (∀ b ∈ G, ∃ o, H b = some o ∧ ¬ Froz o) ∧ Paired (fun u x => ∃ Fi, τ.rep K H Fi u x ∧ Sub Fi G) vs xs
  keep {K H H' F v xs} h k := by
    obtain ⟨a, vs, G, e, rfl, na, g, dm, r⟩ := h
    refine ⟨a, vs, G, e, rfl, na, k a _ g (.inl (List.mem_cons_self ..)), fun b hb => ?_, Paired.mapP r fun u x q => ?_⟩
    · obtain ⟨o, ho, hf⟩ := dm b hb
      exact ⟨o, k b o ho (.inl (List.mem_cons_of_mem _ hb)), hf⟩
    · obtain ⟨Fi, ru, sb⟩ := q
      exact ⟨Fi, τ.keep ru fun b o hb z => k b o hb (z.imp (fun y => List.mem_cons_of_mem _ (sb b y)) id), sb⟩
  dom {K H F v xs} h b m := by
    obtain ⟨a, vs, G, e, rfl, na, g, dm, r⟩ := h
    rcases List.mem_cons.mp m with rfl | m
    · exact ⟨_, g, fun z => z⟩
    · exact dm b m
section
variable {K : PySem.W.Frag} {σ σ' : L2.St} {H : Hp} {F F1 F2 Fu : List Addr} {ta tb te : TE} {v u x y : V} {i j : Int} {t tu tt : TT} {b c a : Bool} {α β : Type} {τ : Ty α} {υ : Ty β} {Q : VK} {D : Ends} {t1 t2 : TS} {g : TG} {ws : List Nat}
theorem lsg_sq {xs : List α} (r : (yLsg τ).rep K H F v xs) : ∃ a vs, v = .ref a ∧ a ∈ F ∧ SqL K H a vs ∧ Paired (fun u x => ∃ Fi, τ.rep K H Fi u x ∧ Sub Fi F ∧ a ∉ Fi) vs xs := by
  obtain ⟨a, vs, G, e, rfl, na, g, dm, q⟩ := r
  exact ⟨a, vs, e, List.mem_cons_self .., .inl (.inl g), Paired.mapP q fun u x z => by
    obtain ⟨Fi, ru, sb⟩ := z
    exact ⟨Fi, ru, fun b hb => List.mem_cons_of_mem _ (sb b hb), fun hb => na (sb a hb)⟩⟩
theorem nn_lsg {xs : List α} (r : (yLsg τ).rep K H F v xs) : v ≠ .non := by obtain ⟨a, vs, G, rfl, _⟩ := r; exact fun z => nomatch z
theorem ty_lsg {xs : List α} (r : (yLsg τ).rep K H F v xs) : TyX K H v (.type "list") := by
  obtain ⟨a, vs, G, rfl, _, _, g, _⟩ := r
  exact .base (.lst g)
theorem tyv_lsg {xs : List α} (r : (yLsg τ).rep K H F v xs) : tyV K "list" v H := by
  obtain ⟨a, vs, rfl, _, s, q⟩ := lsg_sq r
  exact .inl ⟨rfl, _, s⟩
theorem val_lenG {xs : List α} (r : (yLsg τ).rep K H F v xs) (ha : Val ta σ H v) : Val (tCB (rLenQ K) (tCons ta tNil)) σ H (.int (xs.length : Int)) := by
  obtain ⟨a, vs, e, _, s, q⟩ := lsg_sq r
  subst e
  exact fun Q k => ha _ ⟨a, vs, rfl, .inl s, by rw [pr_len q]; exact k⟩
theorem w_lenG {xs : List α} (r : (yLsg τ).rep K H F v xs) (k : Q (.int (xs.length : Int)) H) : rLenQ K [v] H Q := by
  obtain ⟨a, vs, e, _, s, q⟩ := lsg_sq r
  subst e
  exact ⟨a, vs, rfl, .inl s, by rw [pr_len q]; exact k⟩
/-- the item's own value -/
theorem itm_G {xs : List α} {x : α} (r : (yLsg τ).rep K H F v xs) (h : Mi.at_ xs i = some x) :
    ∃ u Fi, τ.rep K H Fi u x ∧ Sub Fi F ∧ (∀ p, v = .ref p → p ∉ Fi) ∧ (∀ {Q : VK}, Q u H → rIxL K v (.int i) H Q) ∧ ∀ {σ : L2.St} {ta tb : TE}, Val ta σ H v → Val tb σ H (.int i) → Val (tOp (rIxL K) ta tb) σ H u := by
  obtain ⟨a, vs, e, _, s, q⟩ := lsg_sq r
  subst e
  obtain ⟨u, e, Fi, ru, sb, na⟩ := pr_at q h
  have k : ∀ {Q : VK}, Q u H → rIxL K (.ref a) (.int i) H Q := fun k => ⟨a, vs, i, u, rfl, rfl, s, e, k⟩
  exact ⟨u, Fi, ru, sb, fun p hp => by obtain rfl := V.ref.inj hp; exact na, k, fun ha hb => val_op ha hb fun Q q => k q⟩
/-- a new list of such items -/
theorem e_lsg {vs : List V} {xs : List α} {G : List Addr} (z : vs.length ≤ Mi.big) (dm : ∀ b ∈ G, ∃ o, H b = some o ∧ ¬ Froz o) (r : Paired (fun u x => ∃ Fi, τ.rep K H Fi u x ∧ Sub Fi G) vs xs)
    (k : ∀ p H', H p = none → Chg [] H H' → (yLsg τ).rep K H' (p :: G) (.ref p) xs → Q (.ref p) H') : LstG vs H Q := by
  refine ⟨sz z, fun p np => k p _ np (Chg.lay np trivial) ⟨p, vs, G, rfl, rfl, fun hp => ?_, upd_same, fun b hb => ?_, Paired.mapP r fun u x q => ?_⟩⟩
  · obtain ⟨o, ho, _⟩ := dm p hp
    rw [np] at ho; cases ho
  · obtain ⟨o, ho, hf⟩ := dm b hb
    exact ⟨o, by rw [upd_ne (ne_of_none ho np)]; exact ho, hf⟩
  · obtain ⟨Fi, ru, sb⟩ := q
    exact ⟨Fi, Ty.ex ru (Chg.lay np trivial), sb⟩
theorem Ty.dm {d : α} (r : τ.rep K H F v d) : ∀ b ∈ F, ∃ o, H b = some o ∧ ¬ Froz o := τ.dom r
theorem dm_nil : ∀ b ∈ ([] : List Addr), ∃ o, H b = some o ∧ ¬ Froz o := fun b h => nomatch h
theorem dm_app (d1 : ∀ b ∈ F1, ∃ o, H b = some o ∧ ¬ Froz o) (d2 : ∀ b ∈ F2, ∃ o, H b = some o ∧ ¬ Froz o) : ∀ b ∈ F1 ++ F2, ∃ o, H b = some o ∧ ¬ Froz o := fun b h => (List.mem_append.mp h).elim (d1 b) (d2 b)
/-- xs.append(e) -/
theorem m_appG {xs ys : List α} {d : α} (r : (yLsg τ).rep K H F v xs) (ru : τ.rep K H Fu u d) (ap : ∀ p, v = .ref p → p ∉ Fu) (hm : Mi.app xs d = some ys)
    (k : ∀ H' F', Chg F H H' → (yLsg τ).rep K H' F' v ys → Sub F F' → Sub F' (F ++ Fu) → Q .non H') : rAppend v [u] H Q := by
  obtain ⟨p, vs, G, rfl, rfl, na, g, dm, q⟩ := r
  have np : p ∉ Fu := ap p rfl
  unfold Mi.app at hm
  split at hm
  · rename_i hz
    cases hm
    have c : Chg [p] H (upd H p (.lst (vs ++ [u]))) := Chg.wr g (fun z => z)
    have kp : ∀ {γ : Type} {ρ : Ty γ} {Fi : List Addr} {w : V} {e : γ}, ρ.rep K H Fi w e → p ∉ Fi → ρ.rep K (upd H p (.lst (vs ++ [u]))) Fi w e := fun rr hn => Ty.chg rr c fun b hb z => by
      rw [List.mem_singleton] at z; subst z; exact hn hb
    refine ⟨p, vs, u, rfl, rfl, g, Nat.lt_of_lt_of_le (by rw [pr_len q]; exact hz) line_big, k _ (p :: (G ++ Fu)) (c.mono fun b hb => by rw [List.mem_singleton] at hb; subst hb; exact List.mem_cons_self ..) ⟨p, _, G ++ Fu, rfl, rfl, ?_, upd_same, ?_, ?_⟩ ?_ ?_⟩
    · intro hp
      exact (List.mem_append.mp hp).elim na np
    · intro b hb
      have hbp : b ≠ p := fun e => by subst e; exact (List.mem_append.mp hb).elim na np
      obtain ⟨o, ho, hf⟩ := dm_app dm (Ty.dm ru) b hb
      exact ⟨o, by rw [upd_ne hbp]; exact ho, hf⟩
    · refine pr_app (Paired.mapP q fun w e z => ?_) (.cons ⟨Fu, kp ru np, fun b hb => List.mem_append_right _ hb⟩ .nil)
      obtain ⟨Fi, rr, sb⟩ := z
      exact ⟨Fi, kp rr fun hp => na (sb p hp), fun b hb => List.mem_append_left _ (sb b hb)⟩
    · intro b hb
      rcases List.mem_cons.mp hb with rfl | hb
      · exact List.mem_cons_self ..
      · exact List.mem_cons_of_mem _ (List.mem_append_left _ hb)
    · intro b hb
      rcases List.mem_cons.mp hb with rfl | hb
      · exact List.mem_append_left _ (List.mem_cons_self ..)
      · rcases List.mem_append.mp hb with hb | hb
        · exact List.mem_append_left _ (List.mem_cons_of_mem _ hb)
        · exact List.mem_append_right _ hb
  · cases hm
theorem Dj.ap {p : Addr} (d : Dj F Fu) (hp : p ∈ F) : p ∉ Fu := d p hp
theorem ap_of {xs : List α} (r : (yLsg τ).rep K H F v xs) (d : Dj F Fu) : ∀ p, v = .ref p → p ∉ Fu := fun p e => by
  obtain ⟨a, vs, G, e2, rfl, _⟩ := r
  rw [e] at e2
  obtain rfl := V.ref.inj e2
  exact d p (List.mem_cons_self ..)
theorem Dj.grow {G' : List Addr} (d : Dj F1 F) (d2 : Dj F1 Fu) (s : Sub G' (F ++ Fu)) : Dj F1 G' := fun b hb z => (List.mem_append.mp (s b z)).elim (d b hb) (d2 b hb)
theorem fresh_grow {H0 : Hp} {G' : List Addr} (n1 : ∀ a ∈ F, H0 a = none) (n2 : ∀ a ∈ Fu, H0 a = none) (s : Sub G' (F ++ Fu)) : ∀ a ∈ G', H0 a = none := fun b hb => (List.mem_append.mp (s b hb)).elim (n1 b) (n2 b)
theorem fresh_cons {H0 : Hp} {p : Addr} (n1 : H0 p = none) (n2 : ∀ a ∈ F, H0 a = none) : ∀ a ∈ p :: F, H0 a = none := fun b hb => by
  rcases List.mem_cons.mp hb with rfl | hb
  · exact n1
  · exact n2 b hb
theorem Dj.consR {p : Addr} (d1 : Dj F [p]) (d2 : Dj F F2) : Dj F (p :: F2) := fun b hb z => by
  rcases List.mem_cons.mp z with rfl | z
  · exact d1 b hb (List.mem_singleton.mpr rfl)
  · exact d2 b hb z
theorem Dj.subR {G' : List Addr} (d : Dj F G') (s : Sub F1 G') : Dj F F1 := fun b hb z => d b hb (s b z)
/-- a loop over it -/
theorem l_lsg {g : TG} {tb : TS} {nx : L2.St → Hp → Prop} {xs : List α} (r : (yLsg τ).rep K H F v xs) (Pv : Nat → L2.St → Hp → Prop) (h0 : Pv 0 σ H) (hl : ∀ i σ' H', Pv i σ' H' → (yLsg τ).rep K H' F v xs)
    (hs : ∀ (i : Nat) (x : α) (u : V) (Fi : List Addr) σ' H', xs[i]? = some x → τ.rep K H' Fi u x → Sub Fi F → Pv i σ' H' → g u σ' H' fun σ2 H2 => tb { D with nx := Pv (i + 1), ct := Pv (i + 1), bk := nx } σ2 H2) (hd : ∀ σ' H', Pv xs.length σ' H' → nx σ' H') :
    ∃ a, v = .ref a ∧ (∃ xs, SqL K H a xs) ∧ LoopG (Itl K a) g tb D nx σ H := by
  obtain ⟨a, vs, e, _, s, q⟩ := lsg_sq r
  refine ⟨a, e, ⟨vs, s⟩, fun i m σ' H' => m = xs.length - i ∧ i ≤ xs.length ∧ Pv i σ' H', ⟨xs.length, by omega, Nat.zero_le _, h0⟩, ?_⟩
  rintro i m σ' H' ⟨rfl, hi, p⟩
  obtain ⟨a', vs', e', _, s', q'⟩ := lsg_sq (hl i σ' H' p)
  obtain rfl : a = a' := by rw [e] at e'; exact V.ref.inj e'
  by_cases hlt : i < xs.length
  · obtain ⟨u, hu, Fi, ru, sb, _⟩ := pr_get q' (List.getElem?_eq_getElem hlt)
    refine .inr ⟨⟨vs', u, s', hu⟩, Pv (i + 1), fun σ2 H2 p' => ⟨xs.length - (i + 1), by omega, rfl, hlt, p'⟩, fun x H2 y => ?_⟩
    obtain ⟨rfl, y⟩ := y
    obtain rfl : x = u := Option.some.inj ((y _ s').symm.trans hu)
    exact hs i _ _ Fi σ' _ (List.getElem?_eq_getElem hlt) ru sb p
  · obtain rfl : i = xs.length := by omega
    exact .inl ⟨⟨vs', s', by rw [pr_len q']; exact Nat.le_refl _⟩, hd σ' H' p⟩
theorem kc_lsg {xs : List β} (r : (yLsg υ).rep K H F v xs) (Pv : Addr → Nat → Hp → Prop) (h0 : ∀ D H', H D = none → Chg [] H H' → (yLst τ).rep K H' [D] (.ref D) [] → Pv D 0 H') (hl : ∀ D i H', Pv D i H' → (yLsg υ).rep K H' F v xs)
    (hs : ∀ D (i : Nat) (x : β) (u : V) (Fi : List Addr) H', xs[i]? = some x → υ.rep K H' Fi u x → Sub Fi F → Pv D i H' → TurnG g tt te ws σ D (Pv D (i + 1)) u H') (hd : ∀ D H', H D = none → Pv D xs.length H' → Q (.ref D) H') :
    ∃ a, v = .ref a ∧ (∃ xs, SqL K H a xs) ∧ CompG (Itl K a) g tt te ws σ H Q := by
  obtain ⟨a, vs, e, _, s, q⟩ := lsg_sq r
  refine ⟨a, e, ⟨vs, s⟩, comp_by (K := K) (τ := τ) xs.length Pv h0 (fun D i H' hi p => ?_) (fun D H' hD p => ?_)⟩
  · obtain ⟨a', vs', e', _, s', q'⟩ := lsg_sq (hl D i H' p)
    obtain rfl : a = a' := by rw [e] at e'; exact V.ref.inj e'
    obtain ⟨u, hu, Fi, ru, sb, _⟩ := pr_get q' (List.getElem?_eq_getElem hi)
    refine ⟨⟨vs', u, s', hu⟩, fun x H2 y => ?_⟩
    obtain ⟨rfl, y⟩ := y
    obtain rfl : x = u := Option.some.inj ((y _ s').symm.trans hu)
    exact hs D i _ _ Fi _ (List.getElem?_eq_getElem hi) ru sb p
  · obtain ⟨a', vs', e', _, s', q'⟩ := lsg_sq (hl D _ H' p)
    obtain rfl : a = a' := by rw [e] at e'; exact V.ref.inj e'
    exact ⟨⟨vs', s', by rw [pr_len q']; exact Nat.le_refl _⟩, hd D H' hD p⟩
theorem w_listG {xs : List α} (r : (yLsg τ).rep K H F v xs) (k : ∀ p H' F', H p = none → Chg [] H H' → (yLsg τ).rep K H' F' (.ref p) xs → Sub F' (p :: F) → Q (.ref p) H') : rListQ K [v] H Q := by
  obtain ⟨a, vs, G, rfl, rfl, na, g, dm, q⟩ := r
  refine ⟨a, vs, rfl, .inl (.inl (.inl g)), fun n nn => k n _ (n :: G) nn (Chg.lay nn trivial) ⟨n, vs, G, rfl, rfl, fun hp => ?_, upd_same, fun b hb => ?_, Paired.mapP q fun w e z => ?_⟩ fun b hb => ?_⟩
  · obtain ⟨o, ho, _⟩ := dm n hp
    rw [nn] at ho; cases ho
  · obtain ⟨o, ho, hf⟩ := dm b hb
    exact ⟨o, by rw [upd_ne (ne_of_none ho nn)]; exact ho, hf⟩
  · obtain ⟨Fi, rr, sb⟩ := z
    exact ⟨Fi, Ty.ex rr (Chg.lay nn trivial), sb⟩
  · rcases List.mem_cons.mp hb with rfl | hb
    · exact List.mem_cons_self ..
    · exact List.mem_cons_of_mem _ (List.mem_cons_of_mem _ hb)
end
/-! ### data compared as a whole -/
structure Dat {α : Type} (τ : Ty α) (n : Nat) where
  f : α → PyData
  dec : DecidableEq α
  dp : ∀ {K : PySem.W.Frag} {H : Hp} {F : List Addr} {v : V} {d : α}, τ.rep K H F v d → Dp K H v (f d)
  lay : ∀ d, (f d).canLay0 = true
  dpt : ∀ d, (f d).depth ≤ n
  eqv : ∀ d e, PyData.eqv (f d) (f e) = decide (d = e)
theorem beq_dec {α : Type} [DecidableEq α] [BEq α] [LawfulBEq α] (a b : α) : (a == b) = decide (a = b) := by
  by_cases h : a = b
  · subst h; simp
  · rw [decide_eq_false h]; simpa using h
def dat_int : Dat yInt 0 where
  f := .int
  dec := inferInstance
  dp := fun h => by obtain ⟨_, rfl⟩ := h; exact .int _
  lay := fun d => by simp [PyData.canLay0]
  dpt := fun d => by simp [PyData.depth]
  eqv := fun d e => by simp only [PyData.eqv]; exact beq_dec d e
def dat_bool : Dat yBool 0 where
  f := .bool
  dec := inferInstance
  dp := fun h => by obtain ⟨_, rfl⟩ := h; exact .bl _
  lay := fun d => by simp [PyData.canLay0]
  dpt := fun d => by simp [PyData.depth]
  eqv := fun d e => by simp only [PyData.eqv]; exact beq_dec d e
section
variable {α β : Type} {τ : Ty α} {n m : Nat}
theorem dpAll {K : PySem.W.Frag} {H : Hp} {R : V → α → Prop} {f : α → PyData} (h : ∀ u x, R u x → Dp K H u (f x)) : ∀ {vs : List V} {xs : List α}, Paired R vs xs → DpAll K H vs (xs.map f)
  | _, _, .nil => .nil
  | _, _, .cons r t => .cons (h _ _ r) (dpAll h t)
theorem layAll {f : α → PyData} (h : ∀ d, (f d).canLay0 = true) : ∀ xs : List α, PyData.canLayAll0 (xs.map f) = true
  | [] => by simp [PyData.canLayAll0]
  | x :: xs => by simp [PyData.canLayAll0, h x, layAll h xs]
theorem dptAll {f : α → PyData} (h : ∀ d, (f d).depth ≤ n) : ∀ xs : List α, PyData.depthAll (xs.map f) ≤ n
  | [] => by simp [PyData.depthAll]
  | x :: xs => by
    simp only [List.map_cons, PyData.depthAll]
    exact Nat.max_le.mpr ⟨h x, dptAll h xs⟩
theorem eqvAllL [DecidableEq α] {f : α → PyData} (h : ∀ d e, PyData.eqv (f d) (f e) = decide (d = e)) : ∀ xs ys : List α, PyData.eqvAll (xs.map f) (ys.map f) = decide (xs = ys)
  | [], [] => by simp [PyData.eqvAll]
  | [], y :: ys => by simp [PyData.eqvAll]
  | x :: xs, [] => by simp [PyData.eqvAll]
  | x :: xs, y :: ys => by
    simp only [List.map_cons, PyData.eqvAll, h x y, eqvAllL h xs ys]
    by_cases h1 : x = y
    · by_cases h2 : xs = ys
      · simp [h1, h2]
      · simp [h2]
    · simp [h1]
def dat_lst (d : Dat τ n) : Dat (yLst τ) (n + 1) where
  f := fun xs => .list (xs.map d.f)
  dec := @instDecidableEqList _ d.dec
  dp := fun h => by
    obtain ⟨a, vs, rfl, s, q⟩ := lst_sq h
    exact .lst s (dpAll (fun u x z => d.dp z) q)
  lay := fun xs => by simp only [PyData.canLay0]; exact layAll d.lay xs
  dpt := fun xs => by simp only [PyData.depth]; exact Nat.succ_le_succ (dptAll d.dpt xs)
  eqv := fun xs ys => by simp only [PyData.eqv]; exact @eqvAllL _ d.dec _ d.eqv xs ys
def dat_lsg (d : Dat τ n) : Dat (yLsg τ) (n + 1) where
  f := fun xs => .list (xs.map d.f)
  dec := @instDecidableEqList _ d.dec
  dp := fun h => by
    obtain ⟨a, vs, rfl, _, s, q⟩ := lsg_sq h
    exact .lst s (dpAll (fun u x z => by obtain ⟨Fi, ru, _⟩ := z; exact d.dp ru) q)
  lay := fun xs => by simp only [PyData.canLay0]; exact layAll d.lay xs
  dpt := fun xs => by simp only [PyData.depth]; exact Nat.succ_le_succ (dptAll d.dpt xs)
  eqv := fun xs ys => by simp only [PyData.eqv]; exact @eqvAllL _ d.dec _ d.eqv xs ys
def dat_tupl (d : Dat τ n) : Dat (yTupL τ) (n + 1) where
  f := fun xs => .tuple (xs.map d.f)
  dec := @instDecidableEqList _ d.dec
  dp := fun h => by
    obtain ⟨a, vs, rfl, s, q⟩ := tupl_sq h
    exact .tup s (dpAll (fun u x z => d.dp z) q)
  lay := fun xs => by simp only [PyData.canLay0]; exact layAll d.lay xs
  dpt := fun xs => by simp only [PyData.depth]; exact Nat.succ_le_succ (dptAll d.dpt xs)
  eqv := fun xs ys => by simp only [PyData.eqv]; exact @eqvAllL _ d.dec _ d.eqv xs ys
end
structure Sat {α : Type} (ts : Tys α) (n : Nat) where
  f : α → List PyData
  dec : DecidableEq α
  dp : ∀ {K : PySem.W.Frag} {H : Hp} {F : List Addr} {vs : List V} {d : α}, ts.rep K H F vs d → DpAll K H vs (f d)
  lay : ∀ d, PyData.canLayAll0 (f d) = true
  dpt : ∀ d, PyData.depthAll (f d) ≤ n
  eqv : ∀ d e, PyData.eqvAll (f d) (f e) = decide (d = e)
section
variable {α β : Type} {τ : Ty α} {ts : Tys β} {n m : Nat}
def sat_one (d : Dat τ n) : Sat (sOne τ) n where
  f := fun x => [d.f x]
  dec := d.dec
  dp := fun h => by obtain ⟨v, rfl, r⟩ := h; exact .cons (d.dp r) .nil
  lay := fun x => by simp [PyData.canLayAll0, d.lay x]
  dpt := fun x => by simp only [PyData.depthAll]; exact Nat.max_le.mpr ⟨d.dpt x, Nat.zero_le _⟩
  eqv := fun x y => by simp [PyData.eqvAll, d.eqv x y]
def sat_cons (d : Dat τ n) (s : Sat ts m) : Sat (sCons τ ts) (max n m) where
  f := fun x => d.f x.1 :: s.f x.2
  dec := @instDecidableEqProd _ _ d.dec s.dec
  dp := fun h => by obtain ⟨v, ws, F1, F2, rfl, _, r, q⟩ := h; exact .cons (d.dp r) (s.dp q)
  lay := fun x => by simp [PyData.canLayAll0, d.lay x.1, s.lay x.2]
  dpt := fun x => by
    simp only [PyData.depthAll]
    have h1 := d.dpt x.1
    have h2 := s.dpt x.2
    omega
  eqv := fun x y => by
    obtain ⟨x1, x2⟩ := x
    obtain ⟨y1, y2⟩ := y
    letI := d.dec
    letI := s.dec
    simp only [PyData.eqvAll, d.eqv x1 y1, s.eqv x2 y2]
    by_cases h1 : x1 = y1
    · by_cases h2 : x2 = y2
      · subst h1 h2; simp
      · have : ¬ ((x1, x2) = (y1, y2)) := fun e => h2 (Prod.mk.inj e).2
        simp only [h2, decide_false, Bool.and_false]
        exact (decide_eq_false this).symm
    · have : ¬ ((x1, x2) = (y1, y2)) := fun e => h1 (Prod.mk.inj e).1
      simp only [h1, decide_false, Bool.false_and]
      exact (decide_eq_false this).symm
def dat_tup (s : Sat ts m) : Dat (yTup ts) (m + 1) where
  f := fun x => .tuple (s.f x)
  dec := s.dec
  dp := fun h => by obtain ⟨a, vs, rfl, sq, q⟩ := h; exact .tup sq (s.dp q)
  lay := fun x => by simp only [PyData.canLay0]; exact s.lay x
  dpt := fun x => by simp only [PyData.depth]; exact Nat.succ_le_succ (s.dpt x)
  eqv := fun x y => by simp only [PyData.eqv]; exact s.eqv x y
end
section
variable {X : Cx} {K : PySem.W.Frag} {H : Hp} {F1 F2 : List Addr} {v u : V} {α : Type} {τ : Ty α} {Q : VK} {n : Nat} {x y : α}
theorem op_eq_d {K : PySem.W.Frag} (hu : X.A.units + 64 < cLine) (e : X.K = K := by rfl) : OpR X (compareOp .Eq) (rEqD K) := by subst e; exact op_eqD hu
theorem op_ne_d {K : PySem.W.Frag} (hu : X.A.units + 64 < cLine) (e : X.K = K := by rfl) : OpR X (compareOp .NotEq) (rNeD K) := by subst e; exact op_neD hu
theorem Dat.shaped (d : Dat τ n) (hn : n ≤ 64) (x : α) : SeqAt.shaped (d.f x) = true := by
  unfold SeqAt.shaped
  rw [d.lay x, decide_eq_true (Nat.le_trans (d.dpt x) hn)]
  rfl
theorem w_eqD [i : DecidableEq α] (d : Dat τ n) (r : τ.rep K H F1 v x) (q : τ.rep K H F2 u y) (k : Q (.bl (decide (x = y))) H) (hn : n ≤ 64 := by decide) : rEqD K v u H Q :=
  ⟨_, _, d.dp r, d.dp q, d.shaped hn x, d.shaped hn y, by
    have e : @decide (x = y) (d.dec x y) = @decide (x = y) (i x y) := by congr
    rw [d.eqv, e]; exact k⟩
theorem w_neD [i : DecidableEq α] (d : Dat τ n) (r : τ.rep K H F1 v x) (q : τ.rep K H F2 u y) (k : Q (.bl (!decide (x = y))) H) (hn : n ≤ 64 := by decide) : rNeD K v u H Q :=
  ⟨_, _, d.dp r, d.dp q, d.shaped hn x, d.shaped hn y, by
    have e : @decide (x = y) (d.dec x y) = @decide (x = y) (i x y) := by congr
    rw [d.eqv, e]; exact k⟩
end
end G
namespace G
open PySem PySem.Spec PyProof.Rows L2
section
variable {K : PySem.W.Frag} {σ σ' : L2.St} {H : Hp} {F F1 F2 Fu : List Addr} {ta tb te : TE} {v u x y : V} {i j : Int} {α β : Type} {τ : Ty α} {υ : Ty β} {Q : VK} {D : Ends} {t1 t2 : TS} {g : TG} {ws : List Nat}
theorem lsg_nil {p : Addr} {υ : Ty β} (r : (yLst υ).rep K H [p] (.ref p) []) : (yLsg τ).rep K H [p] (.ref p) [] := by
  obtain ⟨a, vs, e, f, g, q⟩ := r
  obtain rfl := V.ref.inj e
  cases q
  exact ⟨p, [], [], rfl, rfl, List.not_mem_nil, g, fun b h => absurd h List.not_mem_nil, Paired.nil⟩
theorem e_appG {D : Addr} {N : Hp → Prop} {xs ys : List α} {d : α} (r : (yLsg τ).rep K H F (.ref D) xs) (ru : τ.rep K H Fu u d) (ap : ∀ p, V.ref D = .ref p → p ∉ Fu) (hm : Mi.app xs d = some ys)
    (k : ∀ H' F', Chg F H H' → (yLsg τ).rep K H' F' (.ref D) ys → Sub F F' → Sub F' (F ++ Fu) → N H') : AppG D N u H := by
  have h := m_appG (Q := fun _ H' => N H') r ru ap hm k
  obtain ⟨l, xs', y, e, e2, g, hz, q⟩ := h
  obtain rfl := V.ref.inj e
  obtain rfl : u = y := by simpa using e2
  exact ⟨xs', g, hz, q⟩
theorem enumF_at {α : Type} : ∀ (k : Int) (xs : List α) (i : Nat) {x : α}, xs[i]? = some x → (Mi.enumF k xs)[i]? = some (k + i, x)
  | _, [], _, _, h => by simp at h
  | k, y :: ys, 0, x, h => by
    obtain rfl : y = x := by simpa using h
    show some (k, y) = some (k + ((0 : Nat) : Int), y)
    rw [show k + ((0 : Nat) : Int) = k by omega]
  | k, y :: ys, i + 1, x, h => by
    show (Mi.enumF (k + 1) ys)[i]? = _
    rw [enumF_at (k + 1) ys i (by simpa using h)]
    congr 2
    omega
theorem enumF_len {α : Type} : ∀ (k : Int) (xs : List α), (Mi.enumF k xs).length = xs.length
  | _, [] => rfl
  | k, _ :: ys => by show (Mi.enumF (k + 1) ys).length + 1 = ys.length + 1; rw [enumF_len]
theorem w_iEnum {ts : TA} {R : It → Hp → Prop} (h : ts σ H fun vs H1 => ∃ a xs, vs = [.ref a] ∧ SqL K H1 a xs ∧ R (Ite K a) H1) : iEnum K ts σ H R := h
theorem l_enum {tb : TS} {nx : L2.St → Hp → Prop} {xs : List α} {i1 i2 : Nat} (r : (yLst τ).rep K H F v xs) (Pv : Nat → L2.St → Hp → Prop) (h0 : Pv 0 σ H) (hl : ∀ i σ' H', Pv i σ' H' → (yLst τ).rep K H' F v xs)
    (hs : ∀ (i : Nat) (x : Int × α) (u : V) σ' H' H2, (Mi.enumF 0 xs)[i]? = some x → Chg [] H' H2 → τ.rep K H2 [] u x.2 → Pv i σ' H' → tb { D with nx := Pv (i + 1), ct := Pv (i + 1), bk := nx } ((σ'.set i1 (some (.int x.1))).set i2 (some u)) H2) (hd : ∀ σ' H', Pv (Mi.enumF 0 xs).length σ' H' → nx σ' H') :
    ∃ a xs, [v] = [.ref a] ∧ SqL K H a xs ∧ LoopG (Ite K a) (gTup K 2 (gCons (gName i1) (gCons (gName i2) gNil))) tb D nx σ H := by
  obtain ⟨a, vs, rfl, s, q⟩ := lst_sq r
  refine ⟨a, vs, rfl, s, fun i m σ' H' => m = xs.length - i ∧ i ≤ xs.length ∧ Pv i σ' H', ⟨xs.length, by omega, Nat.zero_le _, h0⟩, ?_⟩
  rintro i m σ' H' ⟨rfl, hi, p⟩
  obtain ⟨a', vs', e', s', q'⟩ := lst_sq (hl i σ' H' p)
  obtain rfl := V.ref.inj e'
  by_cases hlt : i < xs.length
  · obtain ⟨u, hu, ru⟩ := pr_get q' (List.getElem?_eq_getElem hlt)
    refine .inr ⟨⟨vs', u, s', hu⟩, Pv (i + 1), fun σ2 H2 p' => ⟨xs.length - (i + 1), by omega, rfl, hlt, p'⟩, fun x H2 y => ?_⟩
    obtain ⟨T, w, rfl, nT, rfl, y⟩ := y
    obtain rfl : w = u := Option.some.inj ((y _ s').symm.trans hu)
    have hx := enumF_at 0 xs i (List.getElem?_eq_getElem hlt)
    have c : Chg [] H' (upd H' T (.tup [.int (i : Nat), w])) := Chg.lay nT trivial
    have h := hs i _ w σ' H' _ hx c (Ty.ex ru c) p
    have e0 : (0 : Int) + (i : Int) = (i : Int) := Int.zero_add _
    rw [e0] at h
    exact ⟨T, _, rfl, .inl (.inl upd_same), rfl, _, _, rfl, _, _, rfl, rfl, h⟩
  · obtain rfl : i = xs.length := by omega
    exact .inl ⟨⟨vs', s', by rw [pr_len q']; exact Nat.le_refl _⟩, hd σ' H' (by rw [enumF_len]; exact p)⟩
end
end G
namespace G
theorem of_guard {p : Prop} [Decidable p] {u : Unit} (h : Mi.guardO (decide p) = some u) : p := by
  unfold Mi.guardO at h
  split at h
  · exact of_decide_eq_true (by assumption)
  · cases h
end G

/-! ### enumerate over a tuple -/
namespace PySem
open Sem (wp)
theorem enumT_meets (l : Addr) (its : Array Value) :
    Meets (Builtin.«enumerate.__new__» ⟨[.type "enumerate", .ref l], []⟩) (fun _ R s => s.heap.IsTuple l its ∧
      R (.ok (.ret (.ref (s.heap.push { cls := .type "tuple_iterator", data := .fields #[.ref l, .int 0 0] }).objs.size)))
        { s with heap := (s.heap.push { cls := .type "tuple_iterator", data := .fields #[.ref l, .int 0 0] }).push { cls := .type "enumerate", data := .fields #[.none, .bool false, .ref s.heap.objs.size, rawInt 0, .none, .none] } }) :=
  .of_wp fun prog w A R s hz => by
    obtain ⟨hp, gl, d, tk, os⟩ := s
    obtain ⟨hT, hz⟩ := hz
    have hsb := sub_enumerate
    have ht : Heap.IsTuple (Shared.heap ⟨hp, gl, d, tk, os⟩) l its := hT
    wp_walk
    refine wpAny_stack_any fun stk => wpAny_pure ?_
    split
    · rename_i c _ _ _ _ _
      cases (c == Value.type "enumerate")
      all_goals (wp_walk using wpAny_pyIter_tuple ht; exact ⟨_, rfl, hz⟩)
    · (wp_walk using wpAny_pyIter_tuple ht); exact ⟨_, rfl, hz⟩
section
variable {prog : Program} {w : World} {A : Around} {E : Value → Shared → Prop} {s : Shared}
theorem enumT_call {l : Addr} {its : Array Value} {Q : Value → Shared → Prop} (hL : s.heap.IsTuple l its)
    (k : ∀ h', IsEnum h' (s.heap.objs.size + 1) s.heap.objs.size 0 .none → h'.IsTupleIter s.heap.objs.size l 0 → h'.objs.size = s.heap.objs.size + 2 →
      (∀ b o, s.heap.get? b = some o → h'.get? b = some o) → Q (.ref (s.heap.objs.size + 1)) { s with heap := h' }) :
    wpAny (model prog w) A (call (.type "enumerate") [.ref l]) Q E s := by
  refine callType_new F.called_enumerate (by decide) (F.typeCall_enumerate_1 _) (F.newCall_enumerate_1 _) (fun ob => F.args_object_init_2 ob _) F.entry_enumerate_new (enumT_meets l its) ⟨hL, ?_⟩
  have sz : (s.heap.push { cls := .type "tuple_iterator", data := .fields #[.ref l, .int 0 0] }).objs.size = s.heap.objs.size + 1 := Heap.size_push ..
  show _ ∧ _
  rw [sz]
  have en : IsEnum ((s.heap.push { cls := .type "tuple_iterator", data := .fields #[.ref l, .int 0 0] }).push
      { cls := .type "enumerate", data := .fields #[.none, .bool false, .ref s.heap.objs.size, rawInt 0, .none, .none] }) (s.heap.objs.size + 1) s.heap.objs.size 0 .none := by
    have z := Heap.get?_push_size (s.heap.push { cls := .type "tuple_iterator", data := .fields #[.ref l, .int 0 0] })
      (o := { cls := .type "enumerate", data := .fields #[.none, .bool false, .ref s.heap.objs.size, rawInt 0, .none, .none] }) rfl
    rw [sz] at z; exact z
  exact ⟨⟨_, en, rfl⟩, k _ en ⟨_, Heap.get?_push_of_some _ (Heap.get?_push_size _ rfl), rfl, rfl⟩ (by rw [Heap.size_push, sz]) fun b o x => Heap.get?_push_of_some _ (Heap.get?_push_of_some _ x)⟩
end
end PySem
namespace L2
open PySem PySem.Spec PyProof.Rows
/-- the tuple at a, each item in a new pair -/
def ItT (K : PySem.W.Frag) (a : Addr) : It :=
  ⟨fun i H => ∃ (xs : List V) (x : V), SqT K H a xs ∧ xs[i]? = some x, fun i H v H' => ∃ T x, v = .ref T ∧ H T = none ∧ H' = upd H T (.tup [.int (i : Nat), x]) ∧ ∀ xs, SqT K H a xs → xs[i]? = some x, fun i H => ∃ xs : List V, SqT K H a xs ∧ xs.length ≤ i⟩
theorem turn_enumT {P : Program} {w : World} {K : PySem.W.Frag} {elts : List Expr} {kk : Nat} {tpos : Pos} (a e it : Addr) :
    Turn P w K (.Tuple elts kk tpos) (ItT K a) [e, it] e (fun i h => (∃ old, IsEnum h e it ((i : Nat) : Int) old) ∧ h.IsTupleIter it a i ∧ e ≠ it) where
  mem := by simp
  obj := fun i h st b hb => by
    obtain ⟨⟨old, he⟩, ⟨o, ho, hc, hd⟩, _⟩ := st
    rcases (show b = e ∨ b = it by simpa using hb) with z | z
    · rw [z]; exact ⟨_, he, fun v q => nomatch q⟩
    · rw [z]; exact ⟨o, ho, fun v q => by rw [hd] at q; cases q⟩
  keep := fun i h h' st k => let ⟨⟨old, he⟩, hi, hne⟩ := st; ⟨⟨old, k e (by simp) _ he⟩, hi.at fun o q => k it (by simp) o q, hne⟩
  item := by
    intro X hP hw hK hc i pins s σ H E I hf st hg
    subst hP hw hK
    obtain ⟨⟨old, hen⟩, hit, hne⟩ := st
    obtain ⟨xs, x, hsq, hx⟩ := hg
    obtain ⟨its, rv, pT, _⟩ := I.tuple hsq
    obtain ⟨u, hu, ru⟩ := rv.get hx
    have hel : e < s.heap.objs.size := Heap.lt_size hen
    have hil : it < s.heap.objs.size := by obtain ⟨_, q, _⟩ := hit; exact Heap.lt_size q
    have hT : s.heap.IsTuple a its.toArray := pT
    have hai : a ≠ it := fun z => by
      obtain ⟨o1, e1, c1, _⟩ := hT
      obtain ⟨o2, e2, c2, _⟩ := hit
      rw [z, e2] at e1
      cases e1
      rw [c1] at c2
      exact absurd c2 (by decide)
    have hea : e ≠ a := fun z => by
      obtain ⟨o1, e1, c1, _⟩ := hT
      rw [← z] at e1
      have z2 : s.heap.get? e = _ := hen
      rw [z2] at e1
      cases e1
      exact absurd (show (Value.type "enumerate" : Value) = .type "tuple" from c1) (by decide)
    have hD := Draws.tuple (prog := X.prog) (w := X.w) (A := X.A.in1) (I.ok.hd hc) it a hai its.toArray
    refine wpAny_pyNext_enum_itemD hD hen ⟨hit, hT⟩ (by have := (List.getElem?_eq_some_iff.mp hu).1; simpa using this) hne (by simp [hne, hea]) fun y h' tk hy ho st' hT1 hsz hk => ?_
    obtain rfl : u = y := by
      have hy' : its.toArray[i]? = some y := hy
      rw [List.getElem?_toArray, hu] at hy'
      exact Option.some.inj hy'
    refine ⟨_, rfl, wpAny_letOwnedTupleGo_enum (s := { s with heap := h', toks := tk + 1 }) ho fun h2 he2 sb => ?_⟩
    have hT2 : h2.get? s.heap.objs.size = some { cls := .type "tuple", data := .seq #[.int i tk, u] } := (sb.2 _ (Nat.ne_of_gt hel)).trans hT1
    have nw : ObjOk X.prog X.w (upd H s.heap.objs.size (.tup [.int (i : Nat), x])) h2 s.heap.objs.size (.tup [.int (i : Nat), x]) :=
      ⟨by show 2 ≤ sizeLine; decide, [.int i tk, u], .cons ⟨_, rfl⟩ (.cons ru .nil), ⟨_, hT2, rfl, _, rfl⟩⟩
    have I1 : Inv X pins σ (upd H s.heap.objs.size (.tup [.int (i : Nat), x])) { s with heap := h2, toks := tk + 1 } :=
      I.turnedNew (ch := [e, it]) (fun b ob hb q => (sb.2 b (fun z => hb (by simp [z]))).trans (hk b ob (fun z => hb (by simp [z])) (fun z => hb (by simp [z])) q)) hf (Nat.le_refl _) nw
    refine ⟨.ref s.heap.objs.size, _, I1, rfl, ⟨_, x, rfl, I.hok.fresh (Nat.le_refl _), rfl, fun ys hy => by rw [I.tuple_inj hy hsq]; exact hx⟩, ⟨⟨u, ?_⟩, st'.1.at fun o q => (sb.2 it (Ne.symm hne)).trans q, hne⟩, fun b hb => ?_⟩
    · rw [show ((i + 1 : Nat) : Int) = (i : Int) + 1 by omega]; exact he2
    · have hb' : b < s.heap.objs.size := by
        rcases (show b = e ∨ b = it by simpa using hb) with z | z
        · rw [z]; exact hel
        · rw [z]; exact hil
      rw [upd_ne (Nat.ne_of_lt hb')]
      exact (hf b hb).1
  done := by
    intro X hP hw hK hc i pins s σ H E I hf st hg
    subst hP hw hK
    obtain ⟨⟨old, hen⟩, hit, hne⟩ := st
    obtain ⟨xs, hsq, hx⟩ := hg
    obtain ⟨its, rv, pT, _⟩ := I.tuple hsq
    obtain ⟨f0, f1, f2, f3, f4, f5⟩ := hf it (by simp)
    have hl := rv.length
    have hT : s.heap.IsTuple a its.toArray := pT
    have hai : a ≠ it := fun z => by
      obtain ⟨o1, e1, c1, _⟩ := hT
      obtain ⟨o2, e2, c2, _⟩ := hit
      rw [z, e2] at e1
      cases e1
      rw [c1] at c2
      exact absurd c2 (by decide)
    have hTy : s.TypeIs (.ref e) "enumerate" := ⟨_, hen, rfl⟩
    unfold pyNext
    refine wpAny_bind (wpAny_attempt (wpAny_callSpecial?_slot (name := Str.ofString "__next__") hTy F.slot_enumerate_next (wpAny_call_entry F.slot_enumerate_next hTy F.entry_enumerate_next ?_ (F.args_enumerate_next_1 _))))
    show wpAny _ _ (field (.ref e) 2 >>= _) _ _ _
    refine wpAny_bind (wpAny_field hen rfl (x := .ref it) rfl ?_)
    refine wpAny_bind (wpAny_nextOf_tuple_end (I.ok.hd hc) hit hT (by simp; omega) fun h' y eb hy => ?_)
    obtain ⟨o, ho, hcl⟩ := hy
    refine wpAny_bind (wpAny_isInstance (T := "StopIteration") (b := true) ⟨o, ho, hcl⟩ isSubtype_stop ?_)
    exact wpAny_pure ⟨rfl, I.turned (t' := s.toks) (fun b o hb q => eb b o hb q) f0 f1 f3 f4 f5⟩
  self := fun A i s Q E st h => let ⟨⟨_, he⟩, _⟩ := st; wpAny_pyIter_enum he h
def iEnumT (K : PySem.W.Frag) (ta : TA) : TI := fun σ H R => ta σ H fun vs H1 => ∃ a xs, vs = [.ref a] ∧ SqT K H1 a xs ∧ R (ItT K a) H1
theorem pi_enumT {X : Cx} {e : Expr} {ta : TA} {p pos tpos : Pos} {elts : List Expr} {kk : Nat} (hg : Gl X "enumerate") (hm : X.mg "enumerate" = none) (ha : PA X [e] ta) (hs : starEach [e] X.env = [(false, eval e X.env)] := by rfl) :
    PI X (.Tuple elts kk tpos) (.Call (.Name "enumerate" p) [e] [] pos) (iEnumT X.K ta) := by
  refine ⟨fun pins s σ H R I h => ?_⟩
  refine Call_ (ld_blt I hg hm boot_enumerate (PyProof.Rows.callWith_type1 (thn (ha.run pos pins s σ H _ I h) fun us s1 ⟨vs, H1, I1, r1, q1⟩ => ?_) hs rfl))
  obtain ⟨a, xs, rfl, hsq, q⟩ := q1
  cases r1 with
  | cons r rr =>
    cases rr
    cases r
    obtain ⟨its, rv, pT, _⟩ := I1.tuple hsq
    refine enumT_call (show s1.heap.IsTuple a its.toArray from pT) fun h' hen hit hsz hk => wpAny_pyIter_enum hen ?_
    have I2 : Inv X pins σ H1 { s1 with heap := h' } := I1.kept (t' := s1.toks) hk
    refine ⟨s1.heap.objs.size + 1, [s1.heap.objs.size + 1, s1.heap.objs.size], _, _, H1, rfl, I2, turn_enumT a (s1.heap.objs.size + 1) s1.heap.objs.size, ⟨⟨.none, hen⟩, hit, Nat.succ_ne_self _⟩, fun b hb => ?_, q⟩
    have hle : s1.heap.objs.size ≤ b := by
      rcases (show b = s1.heap.objs.size + 1 ∨ b = s1.heap.objs.size by simpa using hb) with z | z
      · rw [z]; exact Nat.le_add_right _ _
      · rw [z]; exact Nat.le_refl _
    exact I1.fpOk hle (I1.hok.fresh hle)
end L2
namespace G
open PySem PySem.Spec PyProof.Rows L2
section
variable {K : PySem.W.Frag} {σ σ' : L2.St} {H : Hp} {F F1 F2 Fu : List Addr} {ta tb te : TE} {v u x y : V} {i j : Int} {α β : Type} {τ : Ty α} {υ : Ty β} {Q : VK} {D : Ends} {t1 t2 : TS} {g : TG} {ws : List Nat}
theorem w_iEnumT {ts : TA} {R : It → Hp → Prop} (h : ts σ H fun vs H1 => ∃ a xs, vs = [.ref a] ∧ SqT K H1 a xs ∧ R (ItT K a) H1) : iEnumT K ts σ H R := h
theorem l_enumT {tb : TS} {nx : L2.St → Hp → Prop} {xs : List α} {i1 i2 : Nat} (r : (yTupL τ).rep K H F v xs) (Pv : Nat → L2.St → Hp → Prop) (h0 : Pv 0 σ H) (hl : ∀ i σ' H', Pv i σ' H' → (yTupL τ).rep K H' F v xs)
    (hs : ∀ (i : Nat) (x : Int × α) (u : V) σ' H' H2, (Mi.enumF 0 xs)[i]? = some x → Chg [] H' H2 → τ.rep K H2 [] u x.2 → Pv i σ' H' → tb { D with nx := Pv (i + 1), ct := Pv (i + 1), bk := nx } ((σ'.set i1 (some (.int x.1))).set i2 (some u)) H2) (hd : ∀ σ' H', Pv (Mi.enumF 0 xs).length σ' H' → nx σ' H') :
    ∃ a xs, [v] = [.ref a] ∧ SqT K H a xs ∧ LoopG (ItT K a) (gTup K 2 (gCons (gName i1) (gCons (gName i2) gNil))) tb D nx σ H := by
  obtain ⟨a, vs, rfl, s, q⟩ := tupl_sq r
  refine ⟨a, vs, rfl, s, fun i m σ' H' => m = xs.length - i ∧ i ≤ xs.length ∧ Pv i σ' H', ⟨xs.length, by omega, Nat.zero_le _, h0⟩, ?_⟩
  rintro i m σ' H' ⟨rfl, hi, p⟩
  obtain ⟨a', vs', e', s', q'⟩ := tupl_sq (hl i σ' H' p)
  obtain rfl := V.ref.inj e'
  by_cases hlt : i < xs.length
  · obtain ⟨u, hu, ru⟩ := pr_get q' (List.getElem?_eq_getElem hlt)
    refine .inr ⟨⟨vs', u, s', hu⟩, Pv (i + 1), fun σ2 H2 p' => ⟨xs.length - (i + 1), by omega, rfl, hlt, p'⟩, fun x H2 y => ?_⟩
    obtain ⟨T, w, rfl, nT, rfl, y⟩ := y
    obtain rfl : w = u := Option.some.inj ((y _ s').symm.trans hu)
    have hx := enumF_at 0 xs i (List.getElem?_eq_getElem hlt)
    have c : Chg [] H' (upd H' T (.tup [.int (i : Nat), w])) := Chg.lay nT trivial
    have h := hs i _ w σ' H' _ hx c (Ty.ex ru c) p
    have e0 : (0 : Int) + (i : Int) = (i : Int) := Int.zero_add _
    rw [e0] at h
    exact ⟨T, _, rfl, .inl (.inl upd_same), rfl, _, _, rfl, _, _, rfl, rfl, h⟩
  · obtain rfl : i = xs.length := by omega
    exact .inl ⟨⟨vs', s', by rw [pr_len q']; exact Nat.le_refl _⟩, hd σ' H' (by rw [enumF_len]; exact p)⟩
end
end G

namespace G
open PySem PySem.Spec PyProof.Rows L2
section
variable {K : PySem.W.Frag} {σ σ' : L2.St} {H : Hp} {F F1 F2 Fu : List Addr} {ta tb te : TE} {v u x y : V} {i j : Int} {α β : Type} {τ : Ty α} {υ : Ty β} {Q : VK} {D : Ends} {t1 t2 : TS} {g : TG} {ws : List Nat}
theorem st_eq {t : TS} (e : σ = σ') (h : t D σ' H) : t D σ H := e ▸ h
theorem m_popAtG {xs : List α} {p : α × List α} (r : (yLsg τ).rep K H F v xs) (hm : Mi.popAt xs i = some p) (hb : xs.length ≤ Mi.big)
    (k : ∀ u H' Fi, Chg F H H' → τ.rep K H' Fi u p.1 → Sub Fi F → (yLsg τ).rep K H' F v p.2 → Q u H') : rPopAt v [.int i] H Q := by
  obtain ⟨l, vs, G, rfl, rfl, na, g, dm, q⟩ := r
  unfold Mi.popAt at hm
  obtain ⟨j, hj, hm⟩ := Mi.bnd hm
  obtain ⟨y, hy, hm⟩ := Mi.bnd hm
  obtain rfl := Option.some.inj hm
  obtain ⟨u, hu, Fi, ru, sb⟩ := pr_get q hy
  have c : Chg [l] H (upd H l (.lst (vs.eraseIdx j))) := Chg.wr g (fun z => z)
  have kp : ∀ {γ : Type} {ρ : Ty γ} {Fi : List Addr} {w : V} {e : γ}, ρ.rep K H Fi w e → l ∉ Fi → ρ.rep K (upd H l (.lst (vs.eraseIdx j))) Fi w e := fun rr hn => Ty.chg rr c fun b hb z => by
    rw [List.mem_singleton] at z; subst z; exact hn hb
  obtain ⟨h1, h2, h3, h4⟩ := ixN_seq (show L2.ixN vs.length i = some j by rw [pr_len q]; exact hj)
  have hb2 : vs.length ≤ 1000000 := by rw [pr_len q]; exact hb
  refine ⟨l, vs, i, j, u, rfl, rfl, g, by omega, by omega, h1, hu, k u _ Fi (c.mono fun b hb => by rw [List.mem_singleton] at hb; subst hb; exact List.mem_cons_self ..) (kp ru fun hp => na (sb l hp)) (fun b hb => List.mem_cons_of_mem _ (sb b hb)) ⟨l, _, G, rfl, rfl, na, upd_same, fun b hb => ?_, Paired.mapP (pr_erase q j) fun w e z => ?_⟩⟩
  · obtain ⟨o, ho, hf⟩ := dm b hb
    have hbl : b ≠ l := fun z => by subst z; exact na hb
    exact ⟨o, by rw [upd_ne hbl]; exact ho, hf⟩
  · obtain ⟨Fi, rr, s2⟩ := z
    exact ⟨Fi, kp rr fun hp => na (s2 l hp), s2⟩
end
end G
namespace G
open PySem PySem.Spec PyProof.Rows L2
theorem pe_fldk {X : Cx} {K : PySem.W.Frag} {e : Expr} {f : Str} {pos : Pos} {ta : TE} (he : PE X e ta) (hb : attributeBase e f X.env (eval e X.env) = eval e X.env) (hk : X.K = K := by rfl) : PE X (.Attribute e f pos) (tFld K ta f) := by
  subst hk; exact pe_fld he hb
end G

namespace G
open PySem PySem.Spec PyProof.Rows L2
/-! ### texts -/
theorem toS_len (l : List Nat) : (toS l).length = l.length := by simp [toS, Str.length]
theorem toS_tl (l : List Nat) : (toS l).cps.toList = l := by simp [toS]
theorem toS_inj {a b : List Nat} (h : toS a = toS b) : a = b := by rw [← toS_tl a, h, toS_tl]
theorem toS_of {x : Str} {l : List Nat} (h : x.cps.toList = l) : x = toS l := by
  obtain ⟨c⟩ := x
  show Str.mk c = Str.mk l.toArray
  congr 1
  rw [← h]
theorem toS_app (a b : List Nat) : toS a ++ toS b = toS (a ++ b) := toS_of (by
  refine (TL.tl_append (toS a) (toS b)).trans ?_
  show (toS a).cps.toList ++ (toS b).cps.toList = _
  rw [toS_tl, toS_tl])
theorem dTx {a b : List Nat} : decide (V.str (toS a) = V.str (toS b)) = decide (a = b) := by
  by_cases h : a = b
  · subst h; simp
  · rw [decide_eq_false h, decide_eq_false]
    intro z
    exact h (toS_inj (V.str.inj z))
theorem bigS {n : Nat} (h : n ≤ Mi.big) : n ≤ sizeLine := Nat.le_trans h (by decide)
section
variable {X : Cx} {K : PySem.W.Frag} {σ σ' : L2.St} {H : Hp} {F F1 F2 Fu : List Addr} {ta tb te to : TE} {v u x y : V} {i j : Int} {α β : Type} {τ : Ty α} {υ : Ty β} {Q : VK} {D : Ends} {g : TG} {ws : List Nat} {a b c : List Nat} {t tu tt : TT}
theorem val_cS {s : Str} (h : s = toS a) : Val (tC (.str s)) σ H (.str (toS a)) := by subst h; exact val_c
theorem val_eqS (ha : Val ta σ H (.str (toS a))) (hb : Val tb σ H (.str (toS b))) : Val (tOp rEq ta tb) σ H (.bl (decide (a = b))) := val_op ha hb fun Q q => ⟨rfl, by rw [dTx]; exact q⟩
theorem val_neS (ha : Val ta σ H (.str (toS a))) (hb : Val tb σ H (.str (toS b))) : Val (tOp rNe ta tb) σ H (.bl (!decide (a = b))) := val_op ha hb fun Q q => ⟨rfl, by rw [dTx]; exact q⟩
theorem w_eqS (k : Q (.bl (decide (a = b))) H) : rEq (.str (toS a)) (.str (toS b)) H Q := ⟨rfl, by rw [dTx]; exact k⟩
theorem w_neS (k : Q (.bl (!decide (a = b))) H) : rNe (.str (toS a)) (.str (toS b)) H Q := ⟨rfl, by rw [dTx]; exact k⟩
/-- len -/
def rLenT : List V → Hp → VK → Prop := fun xs H Q => ∃ z, xs = [.str z] ∧ z.length ≤ sizeLine ∧ Q (.int z.length) H
theorem cl_lenTx : CallR X (.builtin "len") rLenT := call_len_str
theorem w_lenTx {n : Int} (hm : Mi.sLen a = some n) (k : Q (.int n) H) : rLenT [.str (toS a)] H Q := by
  unfold Mi.sLen at hm
  split at hm
  · obtain rfl := Option.some.inj hm
    exact ⟨_, rfl, by rw [toS_len]; exact bigS (by assumption), by rw [toS_len]; exact k⟩
  · cases hm
theorem val_lenTx {n : Int} (hm : Mi.sLen a = some n) (ha : Val ta σ H (.str (toS a))) : Val (tCB rLenT (tCons ta tNil)) σ H (.int n) := fun Q k => ha _ (w_lenTx hm k)
/-- s[i] -/
theorem w_ixS (hm : Mi.sAt a i = some b) (k : Q (.str (toS b)) H) : rIxS (.str (toS a)) (.int i) H Q := by
  unfold Mi.sAt at hm
  split at hm
  · cases e : Mi.at_ a i with
    | none => rw [e] at hm; cases hm
    | some z =>
      rw [e] at hm
      obtain rfl := Option.some.inj hm
      exact ⟨_, i, z, rfl, rfl, by rw [toS_len]; exact bigS (by assumption), by rw [toS_tl]; exact e, k⟩
  · cases hm
theorem val_ixS (hm : Mi.sAt a i = some b) (ha : Val ta σ H (.str (toS a))) (hb : Val tb σ H (.int i)) : Val (tOp rIxS ta tb) σ H (.str (toS b)) := val_op ha hb fun Q q => w_ixS hm q
/-- s + t -/
theorem op_catS : OpR X (binaryOp .Add) rAddS := op_add_str
theorem w_catS (hm : Mi.sCat a b = some c) (k : Q (.str (toS c)) H) : rAddS (.str (toS a)) (.str (toS b)) H Q := by
  unfold Mi.sCat at hm
  split at hm
  · obtain rfl := Option.some.inj hm
    exact ⟨_, _, rfl, rfl, by rw [toS_len, toS_len]; exact bigS (by assumption), by rw [toS_app]; exact k⟩
  · cases hm
theorem val_catS (hm : Mi.sCat a b = some c) (ha : Val ta σ H (.str (toS a))) (hb : Val tb σ H (.str (toS b))) : Val (tOp rAddS ta tb) σ H (.str (toS c)) := val_op ha hb fun Q q => w_catS hm q
/-- c in s -/
def rInC : R2 := fun x y H Q => ∃ (c : Nat) (z : Str), x = .str ⟨#[c]⟩ ∧ y = .str z ∧ Q (.bl (decide (c ∈ z.cps.toList))) H
def rNiC : R2 := fun x y H Q => ∃ (c : Nat) (z : Str), x = .str ⟨#[c]⟩ ∧ y = .str z ∧ Q (.bl (!decide (c ∈ z.cps.toList))) H
theorem op_in_c : OpR X (compareOp .In) rInC := op_in_sign
theorem op_ni_c : OpR X (compareOp .NotIn) rNiC := op_notIn_sign
theorem sIn_some {k : Bool} (hm : Mi.sIn a b = some k) : ∃ c, a = [c] ∧ decide (c ∈ b) = k := by
  match a, hm with
  | [c], hm => exact ⟨c, rfl, by rw [← List.contains_eq_mem]; exact Option.some.inj hm⟩
theorem w_inC {k : Bool} (hm : Mi.sIn a b = some k) (q : Q (.bl k) H) : rInC (.str (toS a)) (.str (toS b)) H Q := by
  obtain ⟨c, rfl, e⟩ := sIn_some hm
  exact ⟨c, _, rfl, rfl, by rw [toS_tl, e]; exact q⟩
theorem w_niC {k : Bool} (hm : Mi.sIn a b = some k) (q : Q (.bl (!k)) H) : rNiC (.str (toS a)) (.str (toS b)) H Q := by
  obtain ⟨c, rfl, e⟩ := sIn_some hm
  exact ⟨c, _, rfl, rfl, by rw [toS_tl, e]; exact q⟩
theorem val_inC {k : Bool} (hm : Mi.sIn a b = some k) (ha : Val ta σ H (.str (toS a))) (hb : Val tb σ H (.str (toS b))) : Val (tOp rInC ta tb) σ H (.bl k) := val_op ha hb fun Q q => w_inC hm q
theorem val_niC {k : Bool} (hm : Mi.sIn a b = some k) (ha : Val ta σ H (.str (toS a))) (hb : Val tb σ H (.str (toS b))) : Val (tOp rNiC ta tb) σ H (.bl (!k)) := val_op ha hb fun Q q => w_niC hm q
/-- s[lo:hi] -/
theorem sIx_eq (n d : Nat) (o : Option Int) : HT.sIx n d o = Mi.sIx n d o := by
  cases o <;> rfl
theorem w_cutS {lo hi : Option Int} (hm : Mi.sCut a lo hi = some b) (k : Q (.str (toS b)) H) : rSlS (.str (toS a)) lo hi H Q := by
  unfold Mi.sCut at hm
  split at hm
  · obtain rfl := Option.some.inj hm
    refine ⟨_, rfl, by rw [toS_len]; exact bigS (by assumption), ?_⟩
    have e : cutS (toS a) lo hi = toS (Mi.cut a lo hi) := by
      unfold cutS
      rw [toS_tl, toS_len, sIx_eq, sIx_eq]
      rfl
    rw [e]; exact k
  · cases hm
/-- sep.join(xs) -/
def rJoinQ (K : PySem.W.Frag) : V → List V → Hp → VK → Prop := fun x xs H Q => ∃ a p, ∃ ys : List Str, x = .str a ∧ xs = [.ref p] ∧ (SqL K H p (ys.map V.str) ∨ SqT K H p (ys.map V.str)) ∧ (ys.map (·.length)).sum + ys.length * a.length ≤ 16777216 ∧ Q (.str (Txt.join a ys)) H
theorem pe_joinQ {K : PySem.W.Frag} {o e : Expr} {apos pos : Pos} (ho : PE X o to) (he : PE X e te) (hk : X.K = K := by rfl) (hs : starEach [e] X.env = [(false, eval e X.env)] := by rfl) (hbase : attributeBase o "join" X.env (eval o X.env) = eval o X.env := by rfl) (hline : (apos.endLine == pos.line) = true := by rfl) :
    PE X (.Call (.Attribute o "join" apos) [e] [] pos) (tM1 (rJoinQ K) to te) := by subst hk; exact pe_join ho he hs hbase hline
theorem joinL_eq (s : List Nat) : ∀ xs : List (List Nat), TL.joinL s xs = Mi.joinL s xs
  | [] => rfl
  | [_] => rfl
  | p :: q :: r => by
    show p ++ (s ++ TL.joinL s (q :: r)) = p ++ (s ++ Mi.joinL s (q :: r))
    rw [joinL_eq s (q :: r)]
theorem strs_mk : ∀ {vs : List V} {xs : List (List Nat)}, Paired (fun u d => yStr.rep K H [] u d) vs xs → vs = (xs.map toS).map V.str
  | _, _, .nil => rfl
  | _, _, .cons r t => by rw [r.2, strs_mk t]; rfl
theorem w_joinL {xs : List (List Nat)} {sep out : List Nat} (r : (yLst yStr).rep K H F v xs) (hm : Mi.sJoin sep xs = some out) (k : Q (.str (toS out)) H) : rJoinQ K (.str (toS sep)) [v] H Q := by
  obtain ⟨p, vs, rfl, s, q⟩ := lst_sq r
  obtain rfl := strs_mk q
  unfold Mi.sJoin at hm
  split at hm
  · rename_i hz
    obtain rfl := Option.some.inj hm
    refine ⟨_, p, xs.map toS, rfl, rfl, .inl s, ?_, ?_⟩
    · rw [List.map_map, List.length_map, toS_len]
      have e : ((fun x : Str => x.length) ∘ toS) = fun l : List Nat => l.length := by funext l; exact toS_len l
      rw [e]
      exact Nat.le_trans hz (by decide)
    · have e : Txt.join (toS sep) (xs.map toS) = toS (Mi.joinL sep xs) := by
        rw [TL.join_eq]
        refine toS_of ?_
        refine (TL.tl_join (toS sep) (xs.map toS)).trans ?_
        rw [List.map_map]
        have e2 : (fun x : Str => x.cps.toList) ∘ toS = fun l : List Nat => l := by funext l; exact toS_tl l
        show TL.joinL (toS sep).cps.toList (xs.map ((fun x : Str => x.cps.toList) ∘ toS)) = _
        rw [e2, toS_tl, List.map_id', joinL_eq]
      rw [e]; exact k
  · cases hm
theorem w_m1 {r : V → List V → Hp → VK → Prop} (h : to σ H fun x H1 => (∃ a, x = .str a) ∧ te σ H1 fun y H2 => r x [y] H2 Q) : tM1 r to te σ H Q := h
/-- for c in s -/
theorem w_iStr {R : It → Hp → Prop} (h : te σ H fun v H1 => ∃ x, v = .str x ∧ R (Its x) H1) : iStr te σ H R := h
theorem signs_at {s : List Nat} {n c : Nat} (h : s[n]? = some c) : (Mi.signs s)[n]? = some [c] := by
  unfold Mi.signs
  rw [List.getElem?_map, h]; rfl
theorem signs_len (s : List Nat) : (Mi.signs s).length = s.length := List.length_map ..
theorem l_str {tb : TS} {nx : L2.St → Hp → Prop} (Pv : Nat → L2.St → Hp → Prop) (h0 : Pv 0 σ H)
    (hs : ∀ (i : Nat) (x : List Nat) σ' H', (Mi.signs a)[i]? = some x → Pv i σ' H' → g (.str (toS x)) σ' H' fun σ2 H2 => tb { D with nx := Pv (i + 1), ct := Pv (i + 1), bk := nx } σ2 H2) (hd : ∀ σ' H', Pv (Mi.signs a).length σ' H' → nx σ' H') :
    ∃ x, V.str (toS a) = .str x ∧ LoopG (Its x) g tb D nx σ H := by
  have ez : (toS a).cps.size = a.length := toS_len a
  refine ⟨_, rfl, fun i m σ' H' => m = a.length - i ∧ i ≤ a.length ∧ Pv i σ' H', ⟨a.length, by omega, Nat.zero_le _, h0⟩, ?_⟩
  rintro i m σ' H' ⟨rfl, hi, p⟩
  by_cases hlt : i < a.length
  · refine .inr ⟨by show i < (toS a).cps.size; omega, Pv (i + 1), fun σ2 H2 p' => ⟨a.length - (i + 1), by omega, rfl, hlt, p'⟩, fun x H2 y => ?_⟩
    obtain ⟨rfl, z, hz, rfl⟩ := y
    have hz' : a[i]? = some z := by
      have e : (toS a).cps.toList[i]? = some z := by rw [Array.getElem?_toList]; exact hz
      rw [toS_tl] at e; exact e
    exact hs i [z] σ' _ (signs_at hz') p
  · obtain rfl : i = a.length := by omega
    exact .inl ⟨by show (toS a).cps.size ≤ _; omega, hd σ' H' (by rw [signs_len]; exact p)⟩
theorem kc_str (Pv : Addr → Nat → Hp → Prop) (h0 : ∀ D H', H D = none → Chg [] H H' → (yLst τ).rep K H' [D] (.ref D) [] → Pv D 0 H')
    (hs : ∀ D (i : Nat) (x : List Nat) H', (Mi.signs a)[i]? = some x → Pv D i H' → TurnG g tt te ws σ D (Pv D (i + 1)) (.str (toS x)) H') (hd : ∀ D H', H D = none → Pv D (Mi.signs a).length H' → Q (.ref D) H') :
    ∃ x, V.str (toS a) = .str x ∧ CompG (Its x) g tt te ws σ H Q := by
  have ez : (toS a).cps.size = a.length := toS_len a
  refine ⟨_, rfl, comp_by (K := K) (τ := τ) a.length Pv h0 (fun D i H' hi p => ⟨by show i < (toS a).cps.size; omega, fun x H2 y => ?_⟩) (fun D H' hD p => ⟨by show (toS a).cps.size ≤ _; omega, hd D H' hD (by rw [signs_len]; exact p)⟩)⟩
  obtain ⟨rfl, z, hz, rfl⟩ := y
  have hz' : a[i]? = some z := by
    have e : (toS a).cps.toList[i]? = some z := by rw [Array.getElem?_toList]; exact hz
    rw [toS_tl] at e; exact e
  exact hs D i [z] _ (signs_at hz') p
/-- int of a bool -/
theorem val_intB {b : Bool} (ha : Val ta σ H (.bl b)) : Val (tCB rInt1 (tCons ta tNil)) σ H (.int (Mi.bI b)) := fun Q q => ha _ (.inr ⟨b, rfl, by cases b <;> exact q⟩)
theorem w_intB {b : Bool} (k : Q (.int (Mi.bI b)) H) : rInt1 [.bl b] H Q := .inr ⟨b, rfl, by cases b <;> exact k⟩
/-- isinstance of None or data -/
theorem val_isiO {n m : String} {b : Bool} {d : Option α} (ty : ∀ {F x}, τ.rep K H F v x → TyX K H v (.type n)) (r : (yOpt τ).rep K H F v d) (ha : Val ta σ H v) (h1 : kitB n m = some b) (h2 : kitB "NoneType" m = some false) : Val (tCB (rIsi K) (tCons ta (tCons (tC (.ty m)) tNil))) σ H (.bl (d.isSome && b)) := by
  cases d with
  | none =>
    obtain ⟨_, rfl⟩ := r
    exact val_isi ha ty_non h2
  | some x =>
    have := val_isi ha (ty r.2) h1
    rw [show ((some x).isSome && b) = b by cases b <;> rfl]
    exact this
theorem tyr_int {x : Int} (r : yInt.rep K H F v x) : TyX K H v (.type "int") := by obtain ⟨_, rfl⟩ := r; exact ty_int
theorem tyr_bool {x : Bool} (r : yBool.rep K H F v x) : TyX K H v (.type "bool") := by obtain ⟨_, rfl⟩ := r; exact ty_bl
theorem tyr_str {x : List Nat} (r : yStr.rep K H F v x) : TyX K H v (.type "str") := by obtain ⟨_, rfl⟩ := r; exact ty_str
end
/-! ### data with texts -/
structure DatO {α : Type} (τ : Ty α) (n : Nat) where
  f : α → PyData
  ok : α → Bool
  dec : DecidableEq α
  dp : ∀ {K : PySem.W.Frag} {H : Hp} {F : List Addr} {v : V} {d : α}, τ.rep K H F v d → Dp K H v (f d)
  lay : ∀ d, ok d = true → (f d).canLay0 = true
  dpt : ∀ d, (f d).depth ≤ n
  eqv : ∀ d e, PyData.eqv (f d) (f e) = decide (d = e)
def Dat.o {α : Type} {τ : Ty α} {n : Nat} (d : Dat τ n) : DatO τ n := ⟨d.f, fun _ => true, d.dec, d.dp, fun x _ => d.lay x, d.dpt, d.eqv⟩
def dao_str : DatO yStr 0 where
  f := fun l => .str (toS l)
  ok := Mi.okS
  dec := inferInstance
  dp := fun h => by obtain ⟨_, rfl⟩ := h; exact .str _
  lay := fun d h => by
    have e : (toS d).cps = d.toArray := rfl
    simp only [PyData.canLay0, PyData.strOk, e]
    unfold Mi.okS at h
    simpa using h
  dpt := fun d => by simp [PyData.depth]
  eqv := fun d e => by
    simp only [PyData.eqv]
    rw [beq_dec]
    by_cases h : d = e
    · subst h; simp
    · rw [decide_eq_false h, decide_eq_false]
      intro z; exact h (toS_inj z)
section
variable {α β : Type} {τ : Ty α} {n m : Nat}
theorem layAllO {f : α → PyData} {ok : α → Bool} (h : ∀ d, ok d = true → (f d).canLay0 = true) : ∀ xs : List α, xs.all ok = true → PyData.canLayAll0 (xs.map f) = true
  | [], _ => by simp [PyData.canLayAll0]
  | x :: xs, q => by
    rw [List.all_cons, Bool.and_eq_true] at q
    simp [PyData.canLayAll0, h x q.1, layAllO h xs q.2]
def dao_lst (d : DatO τ n) : DatO (yLst τ) (n + 1) where
  f := fun xs => .list (xs.map d.f)
  ok := fun xs => xs.all d.ok
  dec := @instDecidableEqList _ d.dec
  dp := fun h => by
    obtain ⟨a, vs, rfl, s, q⟩ := lst_sq h
    exact .lst s (dpAll (fun u x z => d.dp z) q)
  lay := fun xs h => by simp only [PyData.canLay0]; exact layAllO d.lay xs h
  dpt := fun xs => by simp only [PyData.depth]; exact Nat.succ_le_succ (dptAll d.dpt xs)
  eqv := fun xs ys => by simp only [PyData.eqv]; exact @eqvAllL _ d.dec _ d.eqv xs ys
def dao_lsg (d : DatO τ n) : DatO (yLsg τ) (n + 1) where
  f := fun xs => .list (xs.map d.f)
  ok := fun xs => xs.all d.ok
  dec := @instDecidableEqList _ d.dec
  dp := fun h => by
    obtain ⟨a, vs, rfl, _, s, q⟩ := lsg_sq h
    exact .lst s (dpAll (fun u x z => by obtain ⟨Fi, ru, _⟩ := z; exact d.dp ru) q)
  lay := fun xs h => by simp only [PyData.canLay0]; exact layAllO d.lay xs h
  dpt := fun xs => by simp only [PyData.depth]; exact Nat.succ_le_succ (dptAll d.dpt xs)
  eqv := fun xs ys => by simp only [PyData.eqv]; exact @eqvAllL _ d.dec _ d.eqv xs ys
def dao_tupl (d : DatO τ n) : DatO (yTupL τ) (n + 1) where
  f := fun xs => .tuple (xs.map d.f)
  ok := fun xs => xs.all d.ok
  dec := @instDecidableEqList _ d.dec
  dp := fun h => by
    obtain ⟨a, vs, rfl, s, q⟩ := tupl_sq h
    exact .tup s (dpAll (fun u x z => d.dp z) q)
  lay := fun xs h => by simp only [PyData.canLay0]; exact layAllO d.lay xs h
  dpt := fun xs => by simp only [PyData.depth]; exact Nat.succ_le_succ (dptAll d.dpt xs)
  eqv := fun xs ys => by simp only [PyData.eqv]; exact @eqvAllL _ d.dec _ d.eqv xs ys
end
structure SatO {α : Type} (ts : Tys α) (n : Nat) where
  f : α → List PyData
  ok : α → Bool
  dec : DecidableEq α
  dp : ∀ {K : PySem.W.Frag} {H : Hp} {F : List Addr} {vs : List V} {d : α}, ts.rep K H F vs d → DpAll K H vs (f d)
  lay : ∀ d, ok d = true → PyData.canLayAll0 (f d) = true
  dpt : ∀ d, PyData.depthAll (f d) ≤ n
  eqv : ∀ d e, PyData.eqvAll (f d) (f e) = decide (d = e)
section
variable {α β : Type} {τ : Ty α} {ts : Tys β} {n m : Nat}
def sao_one (d : DatO τ n) : SatO (sOne τ) n where
  f := fun x => [d.f x]
  ok := d.ok
  dec := d.dec
  dp := fun h => by obtain ⟨v, rfl, r⟩ := h; exact .cons (d.dp r) .nil
  lay := fun x h => by simp [PyData.canLayAll0, d.lay x h]
  dpt := fun x => by simp only [PyData.depthAll]; exact Nat.max_le.mpr ⟨d.dpt x, Nat.zero_le _⟩
  eqv := fun x y => by simp [PyData.eqvAll, d.eqv x y]
def sao_cons (d : DatO τ n) (s : SatO ts m) : SatO (sCons τ ts) (max n m) where
  f := fun x => d.f x.1 :: s.f x.2
  ok := fun x => d.ok x.1 && s.ok x.2
  dec := @instDecidableEqProd _ _ d.dec s.dec
  dp := fun h => by obtain ⟨v, ws, F1, F2, rfl, _, r, q⟩ := h; exact .cons (d.dp r) (s.dp q)
  lay := fun x h => by
    rw [Bool.and_eq_true] at h
    simp [PyData.canLayAll0, d.lay x.1 h.1, s.lay x.2 h.2]
  dpt := fun x => by
    simp only [PyData.depthAll]
    have h1 := d.dpt x.1
    have h2 := s.dpt x.2
    omega
  eqv := fun x y => by
    obtain ⟨x1, x2⟩ := x
    obtain ⟨y1, y2⟩ := y
    letI := d.dec
    letI := s.dec
    simp only [PyData.eqvAll, d.eqv x1 y1, s.eqv x2 y2]
    by_cases h1 : x1 = y1
    · by_cases h2 : x2 = y2
      · subst h1 h2; simp
      · have : ¬ ((x1, x2) = (y1, y2)) := fun e => h2 (Prod.mk.inj e).2
        simp only [h2, decide_false, Bool.and_false]
        exact (decide_eq_false this).symm
    · have : ¬ ((x1, x2) = (y1, y2)) := fun e => h1 (Prod.mk.inj e).1
      simp only [h1, decide_false, Bool.false_and]
      exact (decide_eq_false this).symm
def dao_tup (s : SatO ts m) : DatO (yTup ts) (m + 1) where
  f := fun x => .tuple (s.f x)
  ok := s.ok
  dec := s.dec
  dp := fun h => by obtain ⟨a, vs, rfl, sq, q⟩ := h; exact .tup sq (s.dp q)
  lay := fun x h => by simp only [PyData.canLay0]; exact s.lay x h
  dpt := fun x => by simp only [PyData.depth]; exact Nat.succ_le_succ (s.dpt x)
  eqv := fun x y => by simp only [PyData.eqv]; exact s.eqv x y
theorem DatO.shaped (d : DatO τ n) (hn : n ≤ 64) (x : α) (h : d.ok x = true) : SeqAt.shaped (d.f x) = true := by
  unfold SeqAt.shaped
  rw [d.lay x h, decide_eq_true (Nat.le_trans (d.dpt x) hn)]
  rfl
variable {K : PySem.W.Frag} {H : Hp} {F1 F2 : List Addr} {v u : V} {Q : VK} {x y : α}
theorem okB {a b : Bool} {z : Unit} (h : Mi.guardO (a && b) = some z) : a = true ∧ b = true := by
  unfold Mi.guardO at h
  split at h
  · rename_i q; rw [Bool.and_eq_true] at q; exact q
  · cases h
theorem w_eqO [i : DecidableEq α] {z : Unit} (d : DatO τ n) (r : τ.rep K H F1 v x) (q : τ.rep K H F2 u y) (g : Mi.guardO (d.ok x && d.ok y) = some z) (k : Q (.bl (decide (x = y))) H) (hn : n ≤ 64 := by decide) : rEqD K v u H Q :=
  ⟨_, _, d.dp r, d.dp q, d.shaped hn x (okB g).1, d.shaped hn y (okB g).2, by
    have e : @decide (x = y) (d.dec x y) = @decide (x = y) (i x y) := by congr
    rw [d.eqv, e]; exact k⟩
theorem w_neO [i : DecidableEq α] {z : Unit} (d : DatO τ n) (r : τ.rep K H F1 v x) (q : τ.rep K H F2 u y) (g : Mi.guardO (d.ok x && d.ok y) = some z) (k : Q (.bl (!decide (x = y))) H) (hn : n ≤ 64 := by decide) : rNeD K v u H Q :=
  ⟨_, _, d.dp r, d.dp q, d.shaped hn x (okB g).1, d.shaped hn y (okB g).2, by
    have e : @decide (x = y) (d.dec x y) = @decide (x = y) (i x y) := by congr
    rw [d.eqv, e]; exact k⟩
end
end G

namespace G
open PySem PySem.Spec PyProof.Rows L2
/-! ### a list that owns its items: no two of them share a cell -/
inductive Par3 {α : Type} (R : V → List Addr → α → Prop) : List V → List (List Addr) → List α → Prop
  | nil : Par3 R [] [] []
  | cons {u : V} {Fi : List Addr} {x : α} {vs : List V} {Fs : List (List Addr)} {xs : List α} : R u Fi x → Par3 R vs Fs xs → Par3 R (u :: vs) (Fi :: Fs) (x :: xs)
theorem Par3.mapP {α : Type} {R S : V → List Addr → α → Prop} : ∀ {vs Fs} {xs : List α}, Par3 R vs Fs xs → (∀ u Fi x, Fi ∈ Fs → R u Fi x → S u Fi x) → Par3 S vs Fs xs
  | _, _, _, .nil, _ => .nil
  | _, _, _, .cons r t, h => .cons (h _ _ _ (List.mem_cons_self ..) r) (Par3.mapP t fun u Fi x m => h u Fi x (List.mem_cons_of_mem _ m))
theorem Par3.len {α : Type} {R : V → List Addr → α → Prop} : ∀ {vs Fs} {xs : List α}, Par3 R vs Fs xs → vs.length = xs.length ∧ Fs.length = xs.length
  | _, _, _, .nil => ⟨rfl, rfl⟩
  | _, _, _, .cons r t => by
    have := Par3.len t
    simp [this.1, this.2]
theorem Par3.get {α : Type} {R : V → List Addr → α → Prop} : ∀ {vs Fs} {xs : List α} (_ : Par3 R vs Fs xs) {j : Nat} {x : α}, xs[j]? = some x → ∃ u Fi, vs[j]? = some u ∧ Fs[j]? = some Fi ∧ R u Fi x
  | _, _, _, .nil, j, x, h => by simp at h
  | _, _, _, .cons (u := u) (Fi := Fi) r t, 0, x, h => by
    obtain rfl := Option.some.inj h
    exact ⟨u, Fi, rfl, rfl, r⟩
  | _, _, _, .cons r t, j + 1, x, h => Par3.get t (j := j) h
theorem Par3.pr {α : Type} {R : V → List Addr → α → Prop} {S : V → α → Prop} : ∀ {vs Fs} {xs : List α}, Par3 R vs Fs xs → (∀ u Fi x, Fi ∈ Fs → R u Fi x → S u x) → Paired S vs xs
  | _, _, _, .nil, _ => .nil
  | _, _, _, .cons r t, h => .cons (h _ _ _ (List.mem_cons_self ..) r) (Par3.pr t fun u Fi x m => h u Fi x (List.mem_cons_of_mem _ m))
/-- the j-th item changed, the others apart from what changed -/
theorem Par3.setAt {α : Type} {R S : V → List Addr → α → Prop} : ∀ {vs Fs} {xs : List α} (_ : Par3 R vs Fs xs) {j : Nat} {u : V} {Fi : List Addr} {y : α}, vs[j]? = some u → Fs[j]? = some Fi → S u Fi y → (∀ (k : Nat) u' Fk x, k ≠ j → Fs[k]? = some Fk → R u' Fk x → S u' Fk x) → Par3 S vs Fs (xs.set j y)
  | _, _, _, .nil, j, u, Fi, y, h, _, _, _ => by simp at h
  | _, _, _, .cons r t, 0, u, Fi, y, h1, h2, hs, ho => by
    obtain rfl := Option.some.inj h1
    obtain rfl := Option.some.inj h2
    refine .cons hs (Par3.mapP' t fun k u' Fk x hk hr => ho (k + 1) u' Fk x (by omega) hk hr)
  | _, _, _, .cons (u := u0) (Fi := F0) r t, j + 1, u, Fi, y, h1, h2, hs, ho => .cons (ho 0 _ _ _ (by omega) rfl r) (Par3.setAt t (j := j) h1 h2 hs fun k u' Fk x hk hf hr => ho (k + 1) u' Fk x (by omega) hf hr)
where
  Par3.mapP' {α : Type} {R S : V → List Addr → α → Prop} : ∀ {vs Fs} {xs : List α}, Par3 R vs Fs xs → (∀ (k : Nat) u Fk x, Fs[k]? = some Fk → R u Fk x → S u Fk x) → Par3 S vs Fs xs
  | _, _, _, .nil, _ => .nil
  | _, _, _, .cons r t, h => .cons (h 0 _ _ _ rfl r) (Par3.mapP' t fun k u Fk x hk => h (k + 1) u Fk x hk)
def yOwn {α : Type} (τ : Ty α) : Ty (List α) where
  rep K H F v xs := ∃ a vs Fs, v = .ref a ∧ F = a :: Fs.flatten ∧ (a :: Fs.flatten).Nodup ∧ H a = some (.lst vs) ∧ Par3 (fun u Fi x => τ.rep K H Fi u x) vs Fs xs
  keep {K H H' F v xs} h k := by
    obtain ⟨a, vs, Fs, e, rfl, nd, g, r⟩ := h
    exact ⟨a, vs, Fs, e, rfl, nd, k a _ g (.inl (List.mem_cons_self ..)), Par3.mapP r fun u Fi x m q => τ.keep q fun b o hb z => k b o hb (z.imp (fun y => List.mem_cons_of_mem _ (List.mem_flatten.mpr ⟨Fi, m, y⟩)) id)⟩
  dom {K H F v xs} h b m := by
    obtain ⟨a, vs, Fs, e, rfl, nd, g, r⟩ := h
    rcases List.mem_cons.mp m with rfl | m
    · exact ⟨_, g, fun z => z⟩
    · obtain ⟨Fi, hF, hb⟩ := List.mem_flatten.mp m
      obtain ⟨j, hj⟩ := List.getElem?_of_mem hF
      have hl := Par3.len r
      have hjl : j < xs.length := by
        have := (List.getElem?_eq_some_iff.mp hj).1
        omega
      obtain ⟨u, F', _, hF', ru⟩ := Par3.get r (List.getElem?_eq_getElem hjl)
      rw [hj] at hF'
      obtain rfl := Option.some.inj hF'
      exact τ.dom ru b hb
section
variable {K : PySem.W.Frag} {σ σ' : L2.St} {H : Hp} {F F1 F2 Fu : List Addr} {ta tb te : TE} {v u x y : V} {i j : Int} {α β : Type} {τ : Ty α} {υ : Ty β} {Q : VK}
theorem own_lsg {xs : List α} (r : (yOwn τ).rep K H F v xs) : (yLsg τ).rep K H F v xs := by
  have hd := (yOwn τ).dom r
  obtain ⟨a, vs, Fs, e, rfl, nd, g, q⟩ := r
  exact ⟨a, vs, Fs.flatten, e, rfl, (List.nodup_cons.mp nd).1, g, fun b hb => hd b (List.mem_cons_of_mem _ hb), Par3.pr q fun u Fi x m ru => ⟨Fi, ru, fun b hb => List.mem_flatten.mpr ⟨Fi, m, hb⟩⟩⟩
theorem own_nil {p : Addr} {υ : Ty β} (r : (yLst υ).rep K H [p] (.ref p) []) : (yOwn τ).rep K H [p] (.ref p) [] := by
  obtain ⟨a, vs, e, f, g, q⟩ := r
  obtain rfl := V.ref.inj e
  cases q
  exact ⟨p, [], [], rfl, rfl, List.nodup_cons.mpr ⟨List.not_mem_nil, List.nodup_nil⟩, g, .nil⟩
theorem Par3.snoc {R : V → List Addr → α → Prop} {u : V} {Fi : List Addr} {x : α} : ∀ {vs Fs} {xs : List α}, Par3 R vs Fs xs → R u Fi x → Par3 R (vs ++ [u]) (Fs ++ [Fi]) (xs ++ [x])
  | _, _, _, .nil, h => .cons h .nil
  | _, _, _, .cons r t, h => .cons r (Par3.snoc t h)
/-- an item goes in, with cells of its own -/
theorem m_appO {xs ys : List α} {d : α} (r : (yOwn τ).rep K H F v xs) (ru : τ.rep K H Fu u d) (dj : Dj F Fu) (nu : Fu.Nodup) (hm : Mi.app xs d = some ys)
    (k : ∀ H' F', Chg F H H' → (yOwn τ).rep K H' F' v ys → Sub F F' → Sub F' (F ++ Fu) → Q .non H') : rAppend v [u] H Q := by
  obtain ⟨p, vs, Fs, rfl, rfl, nd, g, q⟩ := r
  have np : p ∉ Fu := dj p (List.mem_cons_self ..)
  have hpf := (List.nodup_cons.mp nd).1
  unfold Mi.app at hm
  split at hm
  · rename_i hz
    cases hm
    have c : Chg [p] H (upd H p (.lst (vs ++ [u]))) := Chg.wr g (fun z => z)
    have kp : ∀ {γ : Type} {ρ : Ty γ} {Fi : List Addr} {w : V} {e : γ}, ρ.rep K H Fi w e → p ∉ Fi → ρ.rep K (upd H p (.lst (vs ++ [u]))) Fi w e := fun rr hn => Ty.chg rr c fun b hb z => by
      rw [List.mem_singleton] at z; subst z; exact hn hb
    have ef : (Fs ++ [Fu]).flatten = Fs.flatten ++ Fu := by simp
    refine ⟨p, vs, u, rfl, rfl, g, Nat.lt_of_lt_of_le (by rw [(Par3.len q).1]; exact hz) line_big, k _ (p :: (Fs ++ [Fu]).flatten) (c.mono fun b hb => by rw [List.mem_singleton] at hb; subst hb; exact List.mem_cons_self ..) ⟨p, _, Fs ++ [Fu], rfl, rfl, ?_, upd_same, Par3.snoc (Par3.mapP q fun w Fi e m z => kp z fun hp => hpf (List.mem_flatten.mpr ⟨Fi, m, hp⟩)) (kp ru np)⟩ ?_ ?_⟩
    · rw [ef]
      refine List.nodup_cons.mpr ⟨fun hp => (List.mem_append.mp hp).elim hpf np, List.nodup_append.mpr ⟨(List.nodup_cons.mp nd).2, nu, fun b hb b' hb' e => ?_⟩⟩
      subst e
      exact dj b (List.mem_cons_of_mem _ hb) hb'
    · intro b hb
      rw [ef]
      rcases List.mem_cons.mp hb with rfl | hb
      · exact List.mem_cons_self ..
      · exact List.mem_cons_of_mem _ (List.mem_append_left _ hb)
    · intro b hb
      rw [ef] at hb
      rcases List.mem_cons.mp hb with rfl | hb
      · exact List.mem_append_left _ (List.mem_cons_self ..)
      · rcases List.mem_append.mp hb with hb | hb
        · exact List.mem_append_left _ (List.mem_cons_of_mem _ hb)
        · exact List.mem_append_right _ hb
  · cases hm
theorem e_appO {D : Addr} {N : Hp → Prop} {xs ys : List α} {d : α} (r : (yOwn τ).rep K H F (.ref D) xs) (ru : τ.rep K H Fu u d) (dj : Dj F Fu) (nu : Fu.Nodup) (hm : Mi.app xs d = some ys)
    (k : ∀ H' F', Chg F H H' → (yOwn τ).rep K H' F' (.ref D) ys → Sub F F' → Sub F' (F ++ Fu) → N H') : AppG D N u H := by
  have h := m_appO (Q := fun _ H' => N H') r ru dj nu hm k
  obtain ⟨l, xs', y, e, e2, g, hz, q⟩ := h
  obtain rfl := V.ref.inj e
  obtain rfl : u = y := by simpa using e2
  exact ⟨xs', g, hz, q⟩
theorem lst_nd {xs : List α} (r : (yLst τ).rep K H F v xs) : F.Nodup := by
  obtain ⟨a, vs, _, rfl, _⟩ := r
  exact List.nodup_cons.mpr ⟨List.not_mem_nil, List.nodup_nil⟩
theorem own_nd {xs : List α} (r : (yOwn τ).rep K H F v xs) : F.Nodup := by
  obtain ⟨a, vs, Fs, _, rfl, nd, _⟩ := r
  exact nd
theorem flat_apart {Fs : List (List Addr)} (nd : Fs.flatten.Nodup) {j k : Nat} {A B : List Addr} (hj : Fs[j]? = some A) (hk : Fs[k]? = some B) (hne : k ≠ j) {b : Addr} (h1 : b ∈ A) : b ∉ B := by
  induction Fs generalizing j k with
  | nil => simp at hj
  | cons G Fs ih =>
    rw [List.flatten_cons, List.nodup_append] at nd
    match j, k with
    | 0, 0 => omega
    | 0, k + 1 =>
      obtain rfl := Option.some.inj hj
      exact fun h2 => nd.2.2 b h1 b (List.mem_flatten.mpr ⟨B, List.mem_of_getElem? (show Fs[k]? = some B from hk), h2⟩) rfl
    | j + 1, 0 =>
      obtain rfl := Option.some.inj hk
      exact fun h2 => nd.2.2 b h2 b (List.mem_flatten.mpr ⟨A, List.mem_of_getElem? (show Fs[j]? = some A from hj), h1⟩) rfl
    | j + 1, k + 1 => exact ih nd.2.1 (j := j) (k := k) hj hk (by omega)
/-- an item that changes in place -/
theorem itm_O {xs : List (List β)} {x : List β} (r : (yOwn (yLst υ)).rep K H F v xs) (h : Mi.at_ xs i = some x) :
    ∃ u, tyV K "list" u H ∧ (∀ {Q : VK}, Q u H → rIxL K v (.int i) H Q) ∧ (∀ {σ : L2.St} {ta tb : TE}, Val ta σ H v → Val tb σ H (.int i) → Val (tOp (rIxL K) ta tb) σ H u) ∧
      ∀ {e : V} {d : β} {ys : List (List β)} {Q : VK}, υ.rep K H [] e d → Mi.appIn xs i d = some ys → (∀ H', Chg F H H' → (yOwn (yLst υ)).rep K H' F v ys → Q .non H') → rAppend u [e] H Q := by
  obtain ⟨a, vs, Fs, rfl, rfl, nd, g, q⟩ := r
  have hl := (Par3.len q).1
  unfold Mi.at_ at h
  obtain ⟨n, hn, hx⟩ := Mi.bnd h
  obtain ⟨u, Fi, hu, hF, ru⟩ := Par3.get q hx
  have hat : atI vs i = some u := by
    show (L2.ixN vs.length i).bind _ = _
    have e : L2.ixN vs.length i = some n := by rw [hl]; exact hn
    rw [e]; exact hu
  have k : ∀ {Q : VK}, Q u H → rIxL K (.ref a) (.int i) H Q := fun z => ⟨a, vs, i, u, rfl, rfl, .inl (.inl g), hat, z⟩
  refine ⟨u, tyv_lst ru, k, fun ha hb => val_op ha hb fun Q z => k z, fun {e d ys Q} re hm z => ?_⟩
  unfold Mi.appIn at hm
  obtain ⟨n', hn', hm⟩ := Mi.bnd hm
  obtain rfl : n = n' := Option.some.inj (hn.symm.trans hn')
  obtain ⟨row, hrow, hm⟩ := Mi.bnd hm
  obtain rfl : x = row := Option.some.inj (hx.symm.trans hrow)
  obtain ⟨zs, hz, hm⟩ := Mi.bnd hm
  obtain rfl := Option.some.inj hm
  refine m_app ru re hz fun H' c r' => z H' (c.mono fun b hb => List.mem_cons_of_mem _ (List.mem_flatten.mpr ⟨Fi, List.mem_of_getElem? hF, hb⟩)) ⟨a, vs, Fs, rfl, rfl, nd, ?_, Par3.setAt q hu hF r' fun m u' Fk x' hm' hFk rk => Ty.chg rk c fun b hb hb2 => ?_⟩
  · have ha : a ∉ Fi := fun hb => (List.nodup_cons.mp nd).1 (List.mem_flatten.mpr ⟨Fi, List.mem_of_getElem? hF, hb⟩)
    exact c.keep a _ g (.inl ha)
  · exact flat_apart (List.nodup_cons.mp nd).2 hF hFk hm' hb2 hb
end
end G

/-! ### sets of tuples of ints, up to 75 of them: asked for and added to -/
namespace L2
open PySem PySem.Spec PyProof.Rows
section
variable {P : Program} {w : World} {A : Around} {E : Value → Shared → Prop} {s : Shared} {a : Addr} {L : List (Addr × List Int)} {es : Array (Int × Value)} {ep : Nat} {t : SetTable}
structure SetB (P : Program) (w : World) (h : Heap) (a : Addr) (L : List (Addr × List Int)) (es : Array (Int × Value)) (ep : Nat) (t : SetTable) : Prop where
  obj : ∃ o, h.get? a = some o ∧ o.ExactSet ∧ o.data = .set es ep t
  rws : es.toList = rowsOf P w L
  tb : TabOk t (L.map fun p => thash P w p.2)
  ndp : (L.map (·.2)).Nodup
  tps : ∀ p ∈ L, IsT P w h p.2 p.1
  pln : t.plain = true
  ld : w.params.followText "set-order" = true ∨ t.led = true
  rm : L.length * 5 < t.mask * 3
theorem SetB.of {h : Heap} (R : SetTR P w h a L es ep t) : SetB P w h a L es ep t := ⟨R.ob, R.rows, R.tab, R.nd, R.tup, R.plain, R.led, R.room⟩
theorem SetB.small {h : Heap} (R : SetB P w h a L es ep t) (hl : L.length < 64) : SetTR P w h a L es ep t := ⟨R.obj, R.rws, R.tb, R.ndp, R.tps, R.pln, R.ld, R.rm, hl⟩
theorem SetB.sz {h : Heap} (R : SetB P w h a L es ep t) : es.size = L.length := by
  have z := congrArg List.length R.rws
  simpa [rowsOf] using z
theorem SetB.ft {h : Heap} (R : SetB P w h a L es ep t) : t.fits es.size = true := by
  have z1 := R.tb.sz
  have z2 := R.sz
  have z3 := R.rm
  rw [List.length_map] at z1
  simp only [SetTable.fits, SetTable.fill, R.tb.dm, Bool.and_eq_true, beq_iff_eq, decide_eq_true_eq]
  refine ⟨by omega, ?_⟩
  show t.place.size + 0 ≤ t.mask
  omega
theorem SetB.ent {h : Heap} (R : SetB P w h a L es ep t) {i : Nat} {p : Addr × List Int} (hp : L[i]? = some p) : es[i]? = some (thash P w p.2, Value.ref p.1) := by
  have z : es.toList[i]? = some (thash P w p.2, Value.ref p.1) := by
    rw [R.rws, rowsOf, List.getElem?_map, hp]; rfl
  rw [Array.getElem?_toList] at z; exact z
theorem SetB.noGive {h : Heap} (R : SetB P w h a L es ep t) : ¬ t.gaveWay = true := by
  rw [SetTable.gaveWay, mask_odd R.tb.mok]; decide
abbrev wy (P : Program) (w : World) (t : SetTable) (k : List Int) (c : Nat) : Nat := way t.mask (thash P w k) c
abbrev stp (P : Program) (w : World) (t : SetTable) (k : List Int) (c : Nat) : SetTable.Probe := nth t.mask (runAt t.mask (SetTable.bits (thash P w k) % (t.mask + 1)) (SetTable.bits (thash P w k))) c
theorem nth_dm (m : Nat) : ∀ (n : Nat) (p : SetTable.Probe), p.dummy = none → (nth m p n).dummy = none
  | 0, _, h => h
  | n + 1, p, h => nth_dm m n (adv m p) (by unfold adv; split <;> exact h)
/-- the search, asked by a question or by an adding (ad) -/
theorem SetB.srch (R : SetB P w s.heap a L es ep t) {x : Addr} {k : List Int} (hx : IsT P w s.heap k x) (hu : A.units < cLine) (ad : Bool) {K : Nat} (hKf : K < 10 * SetTable.turns t.mask)
    (hK : wy P w t k K ∉ t.place.toList) (hKb : ∀ c, c < K → wy P w t k c ∈ t.place.toList) {Q : SetFound → Shared → Prop}
    (yes : k ∈ L.map (·.2) → ∀ r : Option Nat, (ad = false → r.isSome = true) → Q (.there r) s) (no : k ∉ L.map (·.2) → Q (.free (wy P w t k K) false) s) :
    ∀ (f c : Nat) (st : Option SetTable.Probe), st.getD (t.probeStart (thash P w k)) = stp P w t k c → c ≤ K → K - c < f →
      (∀ (i : Nat) p, L[i]? = some p → p.2 = k → ∃ c', c ≤ c' ∧ c' < K ∧ t.place.toList[i]? = some (wy P w t k c')) → wpAny (model P w) A (setSearchFrom a (.ref x) (thash P w k) ad f st) Q E s := by
  intro f
  induction f with
  | zero => intro c st _ _ hf _; exact absurd hf (Nat.not_lt_zero _)
  | succ f ih =>
    intro c st hst hc hf hre
    obtain ⟨o, ho, hex, hd⟩ := R.obj
    rw [setSearchFrom_succ]
    refine wpAny_bind (wpAny_setState_of ho hd R.ft ?_)
    dsimp only
    refine wp_if_neg R.noGive ?_
    try refine wpAny_bind (wpAny_pure ?_)
    have sh : ∀ q, nth t.mask (stp P w t k c) q = stp P w t k (c + q) := fun q => (nth_add t.mask c _ q).symm
    have ej : ∀ q, (nth t.mask (stp P w t k c) q).j = wy P w t k (c + q) := fun q => congrArg SetTable.Probe.j (sh q)
    have eK : c + (K - c) = K := by omega
    have hh : ∀ (i : Nat) p, L[i]? = some p → (fun i => (es[i]?.map (·.1)).getD 0) i = thash P w p.2 := fun i p hp => by
      show (es[i]?.map (·.1)).getD 0 = _
      rw [R.ent hp]; rfl
    have spec := go_spec t R.tb.ris R.tb.dm (fun i => (es[i]?.map (·.1)).getD 0) (thash P w k) (10 * SetTable.turns t.mask) (K - c) (stp P w t k c) (nth_dm _ _ _ rfl) (by omega) (fun q hq => by rw [ej]; exact hKb (c + q) (by omega)) (by rw [ej, eK]; exact hK)
    rcases spec with ⟨q, i, hq, hi, _, hno, hpr⟩ | ⟨hno, hpr⟩
    · have hp1 : t.probe (fun i => (es[i]?.map (·.1)).getD 0) (thash P w k) (st.getD (t.probeStart (thash P w k))) = some (.candidate (wy P w t k (c + q)) i (stp P w t k (c + (q + 1)))) := by
        rw [hst, ← ej, ← sh]; exact hpr
      rw [hp1]
      dsimp only
      rw [ej] at hi
      have hil : i < L.length := by
        have z1 : i < t.place.toList.length := (List.getElem?_eq_some_iff.mp hi).1
        have z2 := R.tb.sz
        rw [List.length_map] at z2
        rw [Array.length_toList] at z1
        omega
      obtain ⟨p, hp⟩ : ∃ p, L[i]? = some p := ⟨L[i], List.getElem?_eq_getElem hil⟩
      have hm := List.mem_of_getElem? hp
      have hsl : t.slot (wy P w t k (c + q)) = .live i := slot_live R.tb.ris hi
      have more : wpAny (model P w) A (searchRest a (.ref x) (thash P w k) ad f es t (wy P w t k (c + q)) i (stp P w t k (c + (q + 1)))) Q E s := by
        unfold searchRest
        rw [R.ent hp]
        dsimp only
        refine wpAny_bind (wpAny_holding (wpAny_eqBool_tuple hu (R.tps p hm) hx ?_))
        refine wpAny_bind (wpAny_setState_of ho hd R.ft ?_)
        dsimp only
        by_cases hkk : p.2 = k
        · have hin := List.mem_map.mpr ⟨p, hm, hkk⟩
          cases ad with
          | true =>
            refine wp_if_pos (by simp [hkk]) ?_
            exact wpAny_pure (yes hin none fun z => by cases z)
          | false =>
            refine wp_if_neg (by simp) ?_
            try refine wpAny_bind (wpAny_pure ?_)
            rw [sameMem]
            dsimp only
            simp only [if_true, hsl, R.ent hp]
            refine wpAny_bind (wpAny_isSame_ref_self (wpAny_bind (wpAny_pure ?_)))
            simp only [if_true]
            refine wp_if_pos (by simp [hkk]) ?_
            exact wpAny_pure (yes hin (some i) fun _ => rfl)
        · refine wp_if_neg (by simp [hkk]) ?_
          try refine wpAny_bind (wpAny_pure ?_)
          rw [sameMem]
          dsimp only
          simp only [if_true, hsl, R.ent hp]
          refine wpAny_bind (wpAny_isSame_ref_self (wpAny_bind (wpAny_pure ?_)))
          simp only [if_true]
          refine wp_if_neg (by simp [hkk]) ?_
          refine ih (c + (q + 1)) _ rfl (by omega) (by omega) fun i0 p0 h0 hk0 => ?_
          obtain ⟨c', a1, a2, a3⟩ := hre i0 p0 h0 hk0
          refine ⟨c', ?_, a2, a3⟩
          rcases Nat.lt_or_ge c' (c + (q + 1)) with z | z
          · exfalso
            rcases Nat.lt_or_ge c' (c + q) with z2 | z2
            · exact hno (c' - c) i0 (by omega) (by rw [ej, show c + (c' - c) = c' by omega]; exact a3) ((hh i0 p0 h0).trans (congrArg (thash P w) hk0))
            · obtain rfl : c' = c + q := by omega
              have s0 := slot_live R.tb.ris a3
              rw [hsl] at s0
              injection s0 with s0
              rw [← s0, hp] at h0
              exact hkk ((congrArg Prod.snd (Option.some.inj h0)).trans hk0)
          · exact z
      by_cases hl : t.led = true
      · refine wp_if_neg (by simp [hl]) ?_
        try refine wpAny_bind (wpAny_pure ?_)
        exact more
      · refine wp_if_pos (by simp [hl]) ?_
        refine wpAny_bind (seen_tup hx (fun y hy => ?_) ?_)
        · obtain ⟨e, he, ee⟩ := List.mem_map.mp hy
          have he2 : e ∈ es.toList := by
            have z : e ∈ es ∧ e.1 = thash P w k := by simpa using he
            simpa using z.1
          rw [R.rws] at he2
          obtain ⟨p2, hp2, e2⟩ := List.mem_map.mp he2
          exact ⟨p2.2, p2.1, by rw [← ee, ← e2], R.tps p2 hp2⟩
        · refine wp_if_neg (by decide) ?_
          try refine wpAny_bind (wpAny_pure ?_)
          exact more
    · have hp1 : t.probe (fun i => (es[i]?.map (·.1)).getD 0) (thash P w k) (st.getD (t.probeStart (thash P w k))) = some (.empty (wy P w t k K) none) := by
        have e2 : wy P w t k K = (nth t.mask (stp P w t k c) (K - c)).j := by rw [ej, eK]
        rw [hst, e2]; exact hpr
      rw [hp1]
      dsimp only
      refine wpAny_pure (no fun hm => ?_)
      obtain ⟨p0, h0, hk0⟩ := List.mem_map.mp hm
      obtain ⟨i0, h00⟩ := List.getElem?_of_mem h0
      obtain ⟨c', a1, a2, a3⟩ := hre i0 p0 h00 hk0
      exact hno (c' - c) i0 (by omega) (by rw [ej, show c + (c' - c) = c' by omega]; exact a3) ((hh i0 p0 h00).trans (congrArg (thash P w) hk0))
theorem SetB.search (R : SetB P w s.heap a L es ep t) {x : Addr} {k : List Int} (hx : IsT P w s.heap k x) (hu : A.units < cLine) (ad : Bool) {Q : SetFound → Shared → Prop}
    (yes : k ∈ L.map (·.2) → ∀ r : Option Nat, (ad = false → r.isSome = true) → Q (.there r) s)
    (no : ∀ K, k ∉ L.map (·.2) → wy P w t k K ∉ t.place.toList → (∀ c, c < K → wy P w t k c ∈ t.place.toList) → Q (.free (wy P w t k K) false) s) : wpAny (model P w) A (setSearch a (.ref x) (thash P w k) ad) Q E s := by
  have hr := R.rm
  obtain ⟨K, hKf, hK, hKb⟩ := R.tb.first (by rw [List.length_map]; omega) (thash P w k)
  have hbig : K < 100000 := by
    have : 10 * SetTable.turns t.mask ≤ 1420 := by
      unfold SetTable.turns
      rcases R.tb.mok with e | e | e <;> omega
    omega
  unfold setSearch
  refine R.srch hx hu ad hKf hK hKb yes (fun hn => no K hn hK hKb) 100000 0 none rfl (Nat.zero_le _) (by omega) fun i p hp hk => ?_
  have hi : (L.map fun p => thash P w p.2)[i]? = some (thash P w k) := by rw [List.getElem?_map, hp, ← hk]; rfl
  have hil : i < t.place.toList.length := by
    have z1 : i < L.length := (List.getElem?_eq_some_iff.mp hp).1
    have z2 := R.tb.sz
    rw [List.length_map] at z2
    rw [Array.length_toList]; omega
  have hj := List.getElem?_eq_getElem hil
  obtain ⟨c, hc, e⟩ := R.tb.before hK hi hj
  exact ⟨c, Nat.zero_le _, hc, hj.trans (congrArg some e.symm)⟩
/-- adding to a table that has room for 128 -/
theorem SetB.addBig (R : SetB P w s.heap a L es ep t) {x : Addr} {k : List Int} (hx : IsT P w s.heap k x) (hu : A.units < cLine) (hm7 : t.mask = 127) (hfew : L.length + 1 < 76) {Q : Bool → Shared → Prop}
    (hQ : ∀ b h' L' es' ep' t', Heap.SameBut a s.heap h' → SetB P w h' a L' es' ep' t' → (k ∈ L.map (·.2) → L' = L) → (k ∉ L.map (·.2) → L'.Perm ((x, k) :: L)) → Q b { s with heap := h' }) :
    wpAny (model P w) A (setAddHashed a (.ref x) (thash P w k)) Q E s := by
  obtain ⟨o, ho, hex, hd⟩ := R.obj
  have hsl := R.sz
  unfold setAddHashed
  refine wpAny_holding ?_
  rw [show (100000 : Nat) = 99999 + 1 from rfl, setAddHashedIn_succ]
  refine wpAny_bind (wpAny_setState_of ho hd R.ft ?_)
  dsimp only
  refine wp_if_neg (by simp [byScan, Value.scannable]) ?_
  try refine wpAny_bind (wpAny_pure ?_)
  refine wpAny_bind (R.search hx hu true (fun hm r _ => ?_) fun K hm hK hb => ?_)
  · dsimp only
    exact wpAny_pure (hQ false s.heap L es ep t (Heap.SameBut.refl a s.heap) R (fun _ => rfl) fun z => absurd hm z)
  · dsimp only
    refine wpAny_bind (wpAny_setState_of ho hd R.ft ?_)
    dsimp only
    obtain ⟨q1, q2, q3, q4, q5, q6, q7, q8, q9⟩ := R.tb.put hK hb
    have hp1 : (t.put (wy P w t k K)).1.plain = true := by rw [q6]; exact R.pln
    generalize hpt : t.put (wy P w t k K) = pt at q1 q3 q4 q5 q6 q7 q8 q9 hp1 ⊢
    obtain ⟨t1, p⟩ := pt
    dsimp only at q1 q3 q4 q5 q6 q7 q8 q9 hp1 ⊢
    subst q1
    first
      | (refine wpAny_bind ?_; refine wp_if_pos hp1 ?_; refine hashBy_tup hx ?_)
      | refine wp_if_pos hp1 (wpAny_bind (hashBy_tup hx ?_))
    simp only [if_true]
    have hin : (SetTable.insertAt es (SetTable.below t.place (wy P w t k K)) (thash P w k, Value.ref x)).toList = rowsOf P w (L.take (SetTable.below t.place (wy P w t k K)) ++ (x, k) :: L.drop (SetTable.below t.place (wy P w t k K))) := by
      rw [SetTable.toList_insertAt, rows_put, R.rws]
    generalize hpp : SetTable.below t.place (wy P w t k K) = p at q2 q3 hin ⊢
    have pm := put_perm L p (x, k)
    have hlen : (L.take p ++ (x, k) :: L.drop p).length = L.length + 1 := pm.length_eq
    have hhs : (L.take p ++ (x, k) :: L.drop p).map (fun p => thash P w p.2) = (L.map fun p => thash P w p.2).take p ++ thash P w k :: (L.map fun p => thash P w p.2).drop p := by
      rw [List.map_append, List.map_cons, List.map_take, List.map_drop]
    rw [← hhs] at q3
    have nd1 : ((L.take p ++ (x, k) :: L.drop p).map (·.2)).Nodup := (pm.map (·.2)).nodup_iff.mpr (List.nodup_cons.mpr ⟨hm, R.ndp⟩)
    have hes : (SetTable.insertAt es p (thash P w k, Value.ref x)).size = L.length + 1 := by
      have z := congrArg List.length hin
      rw [rowsOf, Array.length_toList, List.length_map, hlen] at z
      exact z
    generalize SetTable.insertAt es p (thash P w k, Value.ref x) = es1 at hin hes ⊢
    generalize L.take p ++ (x, k) :: L.drop p = L1 at pm hlen q3 nd1 hin
    refine wpAny_bind (wpAny_storeSet_of ho hd ?_ (by rw [hes, sizeLine_eq]; omega))
    have sb : Heap.SameBut a s.heap (s.heap.update a (Obj.putSet es1 t1)) := Heap.SameBut.update ..
    have ho1 := store_at (es' := es1) (t' := t1) ho hd
    generalize s.heap.update a (Obj.putSet es1 t1) = h1 at sb ho1 ⊢
    have tup1 : ∀ p ∈ L1, IsT P w h1 p.2 p.1 := fun p hp => by
      rcases List.mem_cons.mp (pm.mem_iff.mp hp) with e | hp
      · rw [e]; exact isT_same hx ho hd sb
      · exact isT_same (R.tps p hp) ho hd sb
    have hf : ¬ t1.tooFull = true := fun z => by
      unfold SetTable.tooFull at z
      rw [decide_eq_true_eq, q9, List.length_map, q4, hm7] at z
      omega
    first
      | refine wp_if_neg (by simp [hf]) ?_
      | (refine wpAny_bind ?_; refine wp_if_neg (by simp [hf]) ?_; refine wpAny_pure ?_)
    refine wpAny_pure (hQ true h1 L1 es1 (ep + 1) t1 sb ⟨⟨_, ho1, ⟨hex.1, hex.2.1, hex.2.2⟩, rfl⟩, hin, q3, nd1, tup1, hp1, by rw [q5]; exact R.ld, ?_⟩ (fun z => absurd z hm) fun _ => pm)
    rw [hlen, q4, hm7]; omega
theorem SetB.add (R : SetB P w s.heap a L es ep t) {x : Addr} {k : List Int} (hx : IsT P w s.heap k x) (hu : A.units < cLine) (hfew : L.length + 1 < 76) {Q : Bool → Shared → Prop}
    (hQ : ∀ b h' L' es' ep' t', Heap.SameBut a s.heap h' → SetB P w h' a L' es' ep' t' → (k ∈ L.map (·.2) → L' = L) → (k ∉ L.map (·.2) → L'.Perm ((x, k) :: L)) → Q b { s with heap := h' }) :
    wpAny (model P w) A (setAddHashed a (.ref x) (thash P w k)) Q E s := by
  by_cases h : L.length + 1 < 64
  · exact add_at (R.small (by omega)) hx hu h fun b h' L' es' ep' t' sb R' => hQ b h' L' es' ep' t' sb (.of R')
  · refine R.addBig hx hu ?_ hfew hQ
    have z := R.rm
    rcases R.tb.mok with e | e | e <;> omega
end
end L2

namespace L2
open PySem PySem.Spec PyProof.Rows
structure SetB0 (P : Program) (w : World) (h : Heap) (a : Addr) (L : List (Addr × List Int)) : Prop where
  has : ∃ (es : Array (Int × Value)) (ep : Nat) (t : SetTable), (∃ o, h.get? a = some o ∧ o.ExactSet ∧ o.data = .set es ep t) ∧ es.toList = rowsOf P w L ∧ TabOk t (L.map fun p => thash P w p.2) ∧ (L.map (·.2)).Nodup ∧ t.plain = true ∧
    (w.params.followText "set-order" = true ∨ t.led = true) ∧ L.length * 5 < t.mask * 3
def SetBO (P : Program) (w : World) (a : Addr) (L : List (Addr × List Int)) : HO := .ext fun h => SetB0 P w h a L
section
variable {P : Program} {w : World} {h : Heap} {a : Addr} {L : List (Addr × List Int)} {es : Array (Int × Value)} {ep : Nat} {t : SetTable}
theorem SetB.bare (R : SetB P w h a L es ep t) : SetB0 P w h a L := ⟨es, ep, t, R.obj, R.rws, R.tb, R.ndp, R.pln, R.ld, R.rm⟩
theorem SetB0.whole (R : SetB0 P w h a L) (ht : ∀ p ∈ L, IsT P w h p.2 p.1) : ∃ es ep t, SetB P w h a L es ep t := by
  obtain ⟨es, ep, t, x1, x2, x3, x4, x5, x6, x7⟩ := R.has
  exact ⟨es, ep, t, x1, x2, x3, x4, ht, x5, x6, x7⟩
theorem setBO_new {H : Hp} (R : SetB0 P w h a L) : ObjOk P w H h a (SetBO P w a L) := by
  have ⟨es, ep, t, ⟨o, ho, _⟩, _⟩ := R.has
  refine ⟨R, ⟨o, ho⟩, fun g1 g2 p k => ?_⟩
  obtain ⟨es', ep', t', ⟨o', ho', r'⟩, q'⟩ := SetB0.has p
  exact ⟨es', ep', t', ⟨o', k o' ho', r'⟩, q'⟩
end
section
variable {X : Cx}
theorem setBO_get {pins : List (Addr × Obj)} {σ : St} {H : Hp} {s : Shared} {a : Addr} {L : List (Addr × List Int)} (I : Inv X pins σ H s) (ha : H a = some (SetBO X.prog X.w a L)) (ht : ∀ p ∈ L, SqT X.K H p.1 (p.2.map V.int)) : ∃ es ep t, SetB X.prog X.w s.heap a L es ep t :=
  SetB0.whole (I.hok a _ ha).1 fun p hp => I.isT (ht p hp)
/-- set() -/
def rSetB0 (P : Program) (w : World) : List V → Hp → VK → Prop := fun xs H Q => xs = [] ∧ ∀ p, H p = none → Q (.ref p) (upd H p (SetBO P w p []))
theorem cr_setB0 : CallR X (.type "set") (rSetB0 X.prog X.w) := by
  intro pins s σ H xs us Q I r h
  obtain ⟨rfl, q⟩ := h
  cases r
  refine setR_new fun _ => ?_
  have nw := (SetB.of (setTR_fresh (P := X.prog) (w := X.w) (h := s.heap.push { cls := .type "set", dict := none, data := .set #[] 0 (.fresh 0 0 (!X.w.params.followText "set-order")) }) (a := s.heap.objs.size) (Heap.get?_push_size _ rfl))).bare
  exact ⟨.ref _, upd H s.heap.objs.size (SetBO X.prog X.w s.heap.objs.size []), I.laid (t' := s.toks) (fun b u e => Heap.get?_push_of_some _ e) (Nat.le_refl _) (setBO_new nw), rfl, q _ (I.hok.fresh (Nat.le_refl _))⟩
theorem B_find {P : Program} {w : World} {A : Around} {E : Value → Shared → Prop} {s : Shared} {a : Addr} {L : List (Addr × List Int)} {es : Array (Int × Value)} {ep : Nat} {t : SetTable} (R : SetB P w s.heap a L es ep t) {x : Addr} {k : List Int} (hx : IsT P w s.heap k x) (hu : A.units < cLine) {Q : Option Nat → Shared → Prop}
    (h : ∀ r : Option Nat, r.isSome = decide (k ∈ L.map (·.2)) → Q r s) : wpAny (model P w) A (setFind a (.ref x) (thash P w k)) Q E s := by
  obtain ⟨o, ho, hex, hd⟩ := R.obj
  unfold setFind setFindIn
  refine wpAny_bind (wpAny_setState_of ho hd R.ft ?_)
  dsimp only
  refine wp_if_neg (by simp [byScan, Value.scannable]) ?_
  try refine wpAny_bind (wpAny_pure ?_)
  refine wpAny_bind (R.search hx hu false (fun hm r hr => ?_) fun K hm _ _ => ?_)
  · dsimp only
    exact wpAny_pure (h r (by rw [hr rfl, decide_eq_true hm]))
  · dsimp only
    exact wpAny_pure (h none (by rw [decide_eq_false hm]; rfl))
/-- t in s -/
def rBIn (K : PySem.W.Frag) (P : Program) (w : World) : V → V → Hp → VK → Prop := fun x y H Q => ∃ (b a : Addr) (k : List Int) (L : List (Addr × List Int)), x = V.ref b ∧ y = V.ref a ∧ SqT K H b (k.map V.int) ∧ H a = some (SetBO P w a L) ∧ (∀ p ∈ L, SqT K H p.1 (p.2.map V.int)) ∧ Q (.bl (decide (k ∈ L.map (·.2)))) H
theorem op_bin (hu : X.A.units + 64 < cLine) : OpR X (compareOp .In) (rBIn X.K X.prog X.w) := by
  intro pins s σ H x y v u Q I rx ry h
  obtain ⟨b, a, k, L, rfl, rfl, hb, ha, ht, q⟩ := h
  cases rx
  cases ry
  obtain ⟨es, ep, t, R⟩ := setBO_get I ha ht
  have hx := I.isT hb
  obtain ⟨o, ho, hex, hd⟩ := R.obj
  have hT : s.TypeIs (.ref a) "set" := ⟨o, ho, hex.1⟩
  show wpAny _ _ (do return Value.bool (← contains (.ref a) (.ref b))) _ _ s
  refine wpAny_bind ?_
  unfold contains
  try with_reducible refine wpAny_holding ?_
  refine wpAny_bind (wpAny_specialOf hT F.slot_set_contains.lookup ?_)
  show wpAny _ _ (if (some (Value.builtin "set.__contains__") == some Value.none) = true then _ else _) _ _ s
  rw [if_neg (by rw [beq_builtin_none]; exact Bool.false_ne_true)]
  refine wpAny_bind (wpAny_callSpecialUnlessNone?_slot (name := Str.ofString "__contains__") hT F.slot_set_contains (wpAny_call_entry F.slot_set_contains hT entry_set_contains ?_ (F.args_set_contains_2 _ _)))
  unfold Builtin.«frozenset.__contains__» Builtin.Frozenset.oneOther
  simp only [List.isEmpty_nil, bind_assoc]
  unfold Builtin.Frozenset.addrOf Builtin.Frozenset.withSetAsKey setContains
  refine wpAny_bind (wpAny_pure ?_)
  try dsimp only
  refine wpAny_bind (wpAny_pure ?_)
  try dsimp only
  refine wpAny_bind (wpAny_tryCatch ?_)
  refine wpAny_holding ?_
  refine wpAny_bind (wpAny_pyHash_tuple (by show X.A.units + _ < cLine; omega) hx ?_)
  have fin : ∀ r : Option Nat, r.isSome = decide (k ∈ L.map (·.2)) → Q (.bl r.isSome) H := fun r e => by rw [e]; exact q
  refine wpAny_bind (B_find (s := { s with toks := s.toks + (k.length + 1) }) R hx (by show X.A.units + _ < cLine; omega) fun r hr => ?_)
  refine wpAny_pure ?_
  show wpAny _ _ (ret (Value.bool r.isSome)) _ _ _
  exact wpAny_pure ⟨_, rfl, wpAny_truthy_bool (wpAny_pure ⟨.bl r.isSome, H, I.tok _, rfl, fin r hr⟩)⟩
/-- s.add(t) -/
def rBAdd (K : PySem.W.Frag) (P : Program) (w : World) : V → List V → Hp → VK → Prop := fun x xs H Q => ∃ (a b : Addr) (k : List Int) (L : List (Addr × List Int)), x = V.ref a ∧ xs = [V.ref b] ∧ SqT K H b (k.map V.int) ∧ H a = some (SetBO P w a L) ∧ (∀ p ∈ L, SqT K H p.1 (p.2.map V.int)) ∧ L.length + 1 < 76 ∧
  ∀ L', (k ∈ L.map (·.2) → L' = L) → (k ∉ L.map (·.2) → L'.Perm ((b, k) :: L)) → Q .non (upd H a (SetBO P w a L'))
theorem mt_badd (hu : X.A.units + 64 < cLine) : MtR X "set.add" (rBAdd X.K X.prog X.w) := by
  intro pins s σ H x xs v us Q I rx rxs h
  obtain ⟨a, b, k, L, rfl, rfl, hb, ha, ht, hf, q⟩ := h
  cases rx
  cases rxs with
  | cons ry rt =>
    cases rt
    cases ry
    obtain ⟨es, ep, t, R⟩ := setBO_get I ha ht
    have hx := I.isT hb
    obtain ⟨o, ho, hex, hd⟩ := R.obj
    have hT : s.TypeIs (.ref a) "set" := ⟨o, ho, hex.1⟩
    refine wpAny_call_entry F.slot_set_add hT F.entry_set_add ?_ (F.args_set_add_2 _ _)
    unfold Builtin.«set.add» Builtin.Frozenset.oneOther
    simp only [List.isEmpty_nil, bind_assoc]
    unfold Builtin.Frozenset.addrOf setAdd
    refine wpAny_bind (wpAny_pure ?_)
    try dsimp only
    refine wpAny_bind (wpAny_pure ?_)
    try dsimp only
    refine wpAny_bind ?_
    refine wpAny_holding ?_
    refine wpAny_bind (wpAny_pyHash_tuple (by show X.A.units + _ < cLine; omega) hx ?_)
    refine SetB.add (s := { s with toks := s.toks + (k.length + 1) }) R hx (by show X.A.units + _ < cLine; omega) hf fun b' h' L' es' ep' t' sb R' c1 c2 => ?_
    show wpAny _ _ (ret Value.none) _ _ _
    have he : ∃ u, h'.get? a = some u := by
      obtain ⟨o', ho', _⟩ := R'.obj
      exact ⟨o', ho'⟩
    exact wpAny_pure ⟨_, rfl, .non, upd H a (SetBO X.prog X.w a L'), I.write (e := a) (t' := s.toks + (k.length + 1)) (by rw [ha]; trivial) (.inl rfl) (fun c u hc hu => (sb.2 c hc).trans hu) he (setBO_new R'.bare), rfl, q L' c1 c2⟩
def tBAdd (K : PySem.W.Frag) (P : Program) (w : World) (to : TE) (t : TA) : TE := fun σ H Q => to σ H fun x H1 => (∃ a L, x = V.ref a ∧ H1 a = some (SetBO P w a L)) ∧ t σ H1 fun xs H2 => rBAdd K P w x xs H2 Q
variable {o e : Expr} {es : List Expr} {to : TE} {t : TA} {apos cpos : Pos}
theorem pe_badd (hu : X.A.units + 64 < cLine) (ho : PE X o to) (ha : PA X (e :: es) t)
    (hbase : attributeBase o "add" X.env (eval o X.env) = eval o X.env := by rfl)
    (hfew : ((backTo cpos (starEach (e :: es) X.env)).all (fun x => !x.1) && (backToKw cpos (keywordEach [] X.env)).all (fun x => x.1.isSome)
      && decide ((e :: es).length + ([] : List Keyword).length + (if ([] : List Keyword).isEmpty then 0 else 1) < 30)) = true := by rfl)
    (hline : (apos.endLine == cpos.line) = true := by rfl) (hs : starEach (e :: es) X.env = (false, eval e X.env) :: starEach es X.env := by rfl) (hplain : (backTo cpos (starEach es X.env)).any (·.1) = false := by rfl) :
    PE X (.Call (.Attribute o "add" apos) (e :: es) [] cpos) (tBAdd X.K X.prog X.w to t) := by
  refine ⟨fun pins s σ H Q I h => ?_⟩
  refine wpAny_Call_method_late hbase hfew hline rfl (thn (ho.run pins s σ H _ I h) fun v s1 ⟨x, H1, I1, r1, ty, q1⟩ => ?_)
  obtain ⟨a, L, rfl, hka⟩ := ty
  cases r1
  obtain ⟨es0, ep, tt, ⟨ob, hob, hex, hd⟩, _⟩ := SetB0.has (I1.hok a _ hka).1
  have hT : s1.TypeIs (.ref a) "set" := ⟨ob, hob, hex.1⟩
  refine ⟨"set", "set.add", F.plainAttrs_set, F.slot_set_add, F.type_set_add, hT, fun b hb => by injection hb with hb; subst hb; exact ⟨ob, hob, hex.2.1⟩, ?_⟩
  have hA := ha.run cpos pins s1 σ H1 _ I1 q1
  rw [hs] at hA ⊢
  refine Calls.callWith_builtin (by show (false || (backTo cpos (starEach es X.env)).any (·.1)) = false; rw [hplain] <;> rfl) (Calls.evalArgs_plain ?_)
  exact thn hA fun us s2 ⟨vs, H2, I2, r2, q2⟩ => mt_badd hu pins s2 σ H2 (.ref a) vs (.ref a) us Q I2 rfl r2 q2
end
end L2

namespace L2
open PySem PySem.Spec PyProof.Rows
def PrAt (K : PySem.W.Frag) (H : Hp) (x : V) (d : Int × Int) : Prop := ∃ t, x = V.ref t ∧ SqT K H t [.int d.1, .int d.2]
/-- sorted(xs), xs a list of pairs of ints -/
def rSortP (K : PySem.W.Frag) : List V → Hp → VK → Prop := fun vs H Q => ∃ (a : Addr) (xs : List V) (ds : List (Int × Int)), vs = [V.ref a] ∧ SqL K H a xs ∧ Paired (PrAt K H) xs ds ∧
  ∀ ys es p, Paired (PrAt K H) ys es → es.Perm ds → es.Pairwise (fun a b => Mi.leP a b = true) → H p = none → Q (.ref p) (upd H p (.lst ys))
section
variable {X : Cx} {pins : List (Addr × Obj)} {σ : St} {H : Hp} {s : Shared}
theorem prAt_inj (I : Inv X pins σ H s) {x : V} {d e : Int × Int} (h1 : PrAt X.K H x d) (h2 : PrAt X.K H x e) : d = e := by
  obtain ⟨t, rfl, s1⟩ := h1
  obtain ⟨t', e2, s2⟩ := h2
  obtain rfl := V.ref.inj e2
  have z := I.tuple_inj s1 s2
  simp only [List.cons.injEq, V.int.injEq, and_true] at z
  exact Prod.ext z.1 z.2
open Classical in
noncomputable def prOf (K : PySem.W.Frag) (H : Hp) (u : V) : Int × Int := if h : ∃ d, PrAt K H u d then h.choose else (0, 0)
theorem prOf_eq (I : Inv X pins σ H s) {x : V} {d : Int × Int} (r : PrAt X.K H x d) : prOf X.K H x = d := by
  have h : ∃ d, PrAt X.K H x d := ⟨d, r⟩
  unfold prOf
  rw [dif_pos h]
  exact prAt_inj I h.choose_spec r
theorem prs_map (I : Inv X pins σ H s) {vs : List V} {xs : List (Int × Int)} (q : Paired (PrAt X.K H) vs xs) : vs.map (prOf X.K H) = xs := by
  induction q with
  | nil => rfl
  | cons r t ih => rw [List.map_cons, prOf_eq I r, ih]
theorem prs_back (I : Inv X pins σ H s) {vs : List V} (h : ∀ u ∈ vs, ∃ d, PrAt X.K H u d) : Paired (PrAt X.K H) vs (vs.map (prOf X.K H)) := by
  induction vs with
  | nil => exact .nil
  | cons u vs ih =>
    obtain ⟨d, hd⟩ := h u (List.mem_cons_self ..)
    exact .cons (by rw [prOf_eq I hd]; exact hd) (ih fun u' m => h u' (List.mem_cons_of_mem _ m))
theorem prs_mem {α : Type} {R : V → α → Prop} {vs : List V} {xs : List α} (q : Paired R vs xs) : ∀ u ∈ vs, ∃ d, R u d := by
  induction q with
  | nil => exact fun u m => nomatch m
  | cons r t ih =>
    intro u m
    rcases List.mem_cons.mp m with rfl | m
    · exact ⟨_, r⟩
    · exact ih u m
theorem leP_iff {a b : Int × Int} : Mi.leP a b = true ↔ (a.1 < b.1 ∨ (a.1 = b.1 ∧ a.2 ≤ b.2)) := by unfold Mi.leP; exact decide_eq_true_iff
theorem cr_sortP : CallR X (.builtin "sorted") (rSortP X.K) := by
  intro pins s σ H vs us Q I r h
  obtain ⟨a, xs, ds, rfl, hsq, hx, q⟩ := h
  have hd := prs_mem hx
  obtain ⟨its, rv, hl, hz⟩ := I.list hsq
  obtain ⟨u, rfl, ru⟩ := vals1 r
  obtain rfl : u = Value.ref a := ru
  obtain ⟨e1, e2⟩ := refs_back rv fun x m => by
    obtain ⟨d, t, e, _⟩ := hd x m
    exact ⟨t, e⟩
  refine SrtO.sorted_pairsO (k := fun u => prOf X.K H (backV u)) hl.isList (by rw [← rv.length]; exact hz) (fun v hv => ?_) fun h' d out h1 h2 kp hd' hn => ?_
  · obtain ⟨t, rfl⟩ := e2 v hv
    have hm : V.ref t ∈ xs := by rw [e1]; exact List.mem_map.mpr ⟨_, hv, rfl⟩
    obtain ⟨d, hp⟩ := hd _ hm
    have ep : prOf X.K H (backV (Value.ref t)) = d := prOf_eq I hp
    obtain ⟨t', e, ht⟩ := hp
    cases e
    obtain ⟨its2, r2, ⟨o, ho, hc, n, hd2⟩, _⟩ := I.tuple ht
    obtain ⟨u1, u2, rfl, ri, rj⟩ := vals2 r2
    obtain ⟨t1, rfl⟩ := ri
    obtain ⟨t2, rfl⟩ := rj
    refine ⟨t, o, t1, t2, n, rfl, ho, hc, ?_⟩
    rw [ep]; exact hd2
  · have h3 : ∀ u ∈ out, ∃ a, u = Value.ref a := fun u hu => e2 u (h2.perm.mem_iff.mp hu)
    obtain ⟨n, hn⟩ := hn
    have hb : (out.map backV).Perm xs := by rw [e1]; exact h2.perm.map backV
    refine ⟨.ref d, upd H d (.lst (out.map backV)), I.laid (t' := s.toks) kp hd' ⟨?_, out, n, vals_back h3, hn⟩, rfl, q _ _ d (prs_back I fun u m => hd u (hb.mem_iff.mp m)) ?_ ?_ (I.hok.fresh hd')⟩
    · rw [hb.length_eq]; exact hz
    · rw [← prs_map I hx]; exact hb.map _
    · rw [List.pairwise_map, List.pairwise_map]
      refine List.Pairwise.imp (fun {u u'} z => ?_) h1
      rw [leP_iff]
      have := SrtO.lexB_no.mp z
      omega
end
end L2
namespace G
open PySem PySem.Spec PyProof.Rows L2
abbrev yPair : Ty (Int × Int) := yTup (sCons yInt (sOne yInt))
section
variable {X : Cx} {P : Program} {w : World} {K : PySem.W.Frag} {σ σ' : L2.St} {H : Hp} {F F1 F2 Fu : List Addr} {ta tb te to : TE} {v u x y : V} {i j : Int} {Q : VK}
theorem pair_sq {d : Int × Int} (r : yPair.rep K H F v d) : F = [] ∧ ∃ a, v = .ref a ∧ SqT K H a [.int d.1, .int d.2] := by
  obtain ⟨a, vs, rfl, s, q⟩ := r
  obtain ⟨v1, ws, F1, F2, rfl, rfl, q1, q2⟩ := q
  obtain ⟨v2, rfl, q2⟩ := q2
  obtain ⟨rfl, rfl⟩ := q1
  obtain ⟨rfl, rfl⟩ := q2
  exact ⟨rfl, a, rfl, s⟩
theorem pair_mk {a : Addr} {d : Int × Int} (s : SqT K H a [.int d.1, .int d.2]) : yPair.rep K H [] (.ref a) d := ⟨a, _, rfl, s, _, _, [], [], rfl, rfl, ⟨rfl, rfl⟩, _, rfl, rfl, rfl⟩
/-! ### sorted pairs -/
theorem cl_sortP {K : PySem.W.Frag} (e : X.K = K := by rfl) : CallR X (.builtin "sorted") (rSortP K) := by subst e; exact cr_sortP
theorem leP_uniq : ∀ {xs ys : List (Int × Int)}, xs.Perm ys → xs.Pairwise (fun a b => Mi.leP a b = true) → ys.Pairwise (fun a b => Mi.leP a b = true) → xs = ys
  | [], ys, p, _, _ => p.nil_eq
  | x :: xs, [], p, _, _ => absurd p.length_eq (by simp)
  | x :: xs, y :: ys, p, h1, h2 => by
    have hx := List.pairwise_cons.mp h1
    have hy := List.pairwise_cons.mp h2
    have e : x = y := by
      have a1 : y ∈ x :: xs := p.mem_iff.mpr (List.mem_cons_self ..)
      have a2 : x ∈ y :: ys := p.mem_iff.mp (List.mem_cons_self ..)
      rcases List.mem_cons.mp a1 with z | z
      · exact z.symm
      · rcases List.mem_cons.mp a2 with q | q
        · exact q
        · have b1 := leP_iff.mp (hx.1 y z)
          have b2 := leP_iff.mp (hy.1 x q)
          exact Prod.ext (by omega) (by omega)
    subst e
    rw [leP_uniq (List.Perm.cons_inv p) hx.2 hy.2]
theorem sortP_pw (xs : List (Int × Int)) : (Mi.sortP xs).Pairwise (fun a b => Mi.leP a b = true) :=
  List.pairwise_mergeSort (le := Mi.leP) (fun a b c h1 h2 => by rw [leP_iff] at *; omega) (fun a b => by rw [Bool.or_eq_true, leP_iff, leP_iff]; omega) xs
theorem pair_at {d : Int × Int} : yPair.rep K H [] u d ↔ PrAt K H u d := by
  constructor
  · intro r
    obtain ⟨_, a, e, s⟩ := pair_sq r
    exact ⟨a, e, s⟩
  · rintro ⟨a, rfl, s⟩
    exact pair_mk s
theorem w_sortedP {xs : List (Int × Int)} (r : (yLst yPair).rep K H F v xs) (k : ∀ p H', H p = none → Chg [] H H' → (yLst yPair).rep K H' [p] (.ref p) (Mi.sortP xs) → Q (.ref p) H') : rSortP K [v] H Q := by
  obtain ⟨a, vs, rfl, s, q⟩ := lst_sq r
  refine ⟨a, vs, xs, rfl, s, Paired.mapP q fun _ _ z => pair_at.mp z, fun ys es p hp pm so np => ?_⟩
  have e : es = Mi.sortP xs := leP_uniq (pm.trans (List.mergeSort_perm _ _).symm) so (sortP_pw xs)
  subst e
  exact k p _ np (Chg.lay np trivial) ⟨p, ys, rfl, rfl, upd_same, Paired.mapP hp fun _ _ z => Ty.ex (pair_at.mpr z) (Chg.lay np trivial)⟩
/-! ### sets of pairs -/
def ySetP (P : Program) (w : World) : Ty (List (Int × Int)) where
  rep K H F v xs := ∃ a L, v = .ref a ∧ F = [a] ∧ H a = some (SetBO P w a L) ∧ (∀ p ∈ L, SqT K H p.1 (p.2.map V.int)) ∧ L.length = xs.length ∧ ∀ k : Int × Int, [k.1, k.2] ∈ L.map (·.2) ↔ k ∈ xs
  keep {K H H' F v xs} h k := by
    obtain ⟨a, L, e, rfl, g, t, l, m⟩ := h
    exact ⟨a, L, e, rfl, k a _ g (.inl (List.mem_singleton.mpr rfl)), fun p hp => SqT.keeps (t p hp) fun b o hb z => k b o hb (.inr z), l, m⟩
  dom {K H F v xs} h b m := by
    obtain ⟨a, L, e, rfl, g, _⟩ := h
    rw [List.mem_singleton] at m; subst m
    exact ⟨_, g, fun z => z⟩
theorem setb_nc {P : Program} {w : World} {H H' : Hp} {a : Addr} {L : List (Addr × List Int)} : NCo H H' a (SetBO P w a L) := fun h ob r e v z => by
  obtain ⟨es, ep, t, ⟨o, ho, _, hd⟩, _⟩ := r.has
  rw [e] at ho; cases ho
  rw [z] at hd; cases hd
theorem cl_setP0 {P : Program} {w : World} (e : X.prog = P := by rfl) (e2 : X.w = w := by rfl) : CallR X (.type "set") (rSetB0 P w) := by subst e e2; exact cr_setB0
theorem w_setP0 (k : ∀ p H', H p = none → Chg [] H H' → (ySetP P w).rep K H' [p] (.ref p) [] → Q (.ref p) H') : rSetB0 P w [] H Q := ⟨rfl, fun p np => k p _ np (Chg.new' np setb_nc) ⟨p, [], rfl, rfl, upd_same, (fun q hq => absurd hq List.not_mem_nil), rfl, (fun k => ⟨fun z => absurd z List.not_mem_nil, fun z => absurd z List.not_mem_nil⟩)⟩⟩
theorem op_inP {K : PySem.W.Frag} {P : Program} {w : World} (hu : X.A.units + 64 < cLine) (e0 : X.K = K := by rfl) (e : X.prog = P := by rfl) (e2 : X.w = w := by rfl) : OpR X (compareOp .In) (rBIn K P w) := by subst e0 e e2; exact op_bin hu
theorem w_inP {xs : List (Int × Int)} {d : Int × Int} (r : (ySetP P w).rep K H F v xs) (ru : yPair.rep K H Fu u d) (k : Q (.bl (xs.contains d)) H) : rBIn K P w u v H Q := by
  obtain ⟨a, L, rfl, rfl, g, t, l, m⟩ := r
  obtain ⟨_, b, rfl, s⟩ := pair_sq ru
  refine ⟨b, a, [d.1, d.2], L, rfl, rfl, s, g, t, ?_⟩
  have e : decide ([d.1, d.2] ∈ L.map (·.2)) = xs.contains d := by
    rw [List.contains_eq_mem]
    exact decide_eq_decide.mpr (m d)
  rw [e]; exact k
theorem w_badd {ts : TA} (h : to σ H fun x H1 => (∃ a L, x = V.ref a ∧ H1 a = some (SetBO P w a L)) ∧ ts σ H1 fun xs H2 => rBAdd K P w x xs H2 Q) : tBAdd K P w to ts σ H Q := h
theorem tyv_setP {xs : List (Int × Int)} (r : (ySetP P w).rep K H F v xs) : ∃ a L, v = V.ref a ∧ H a = some (SetBO P w a L) := by
  obtain ⟨a, L, rfl, rfl, g, _⟩ := r
  exact ⟨a, L, rfl, g⟩
theorem m_saddP {xs ys : List (Int × Int)} {d : Int × Int} (r : (ySetP P w).rep K H F v xs) (ru : yPair.rep K H Fu u d) (hm : Mi.saddP xs d = some ys) (k : ∀ H', Chg F H H' → (ySetP P w).rep K H' F v ys → Q .non H') : rBAdd K P w v [u] H Q := by
  obtain ⟨a, L, rfl, rfl, g, t, l, m⟩ := r
  obtain ⟨_, b, rfl, s⟩ := pair_sq ru
  unfold Mi.saddP at hm
  split at hm
  · rename_i hz
    obtain rfl := Option.some.inj hm
    refine ⟨a, b, [d.1, d.2], L, rfl, rfl, s, g, t, by omega, fun L' c1 c2 => ?_⟩
    have c : Chg [a] H (upd H a (SetBO P w a L')) := Chg.wr g (fun z => z) (hn := setb_nc)
    have kt : ∀ {b' : Addr} {vs : List V}, SqT K H b' vs → SqT K (upd H a (SetBO P w a L')) b' vs := fun sq => SqT.keeps sq fun b o hb z => c.keep b o hb (.inr z)
    by_cases hc : d ∈ xs
    · have e := c1 ((m d).mpr hc)
      rw [if_pos (show xs.contains d = true by rw [List.contains_eq_mem]; exact decide_eq_true hc)] at k
      exact k _ c ⟨a, L', rfl, rfl, upd_same, fun p hp => kt (t p (e ▸ hp)), by rw [e]; exact l, by rw [e]; exact m⟩
    · have pm := c2 fun z => hc ((m d).mp z)
      rw [if_neg (show ¬ xs.contains d = true by rw [List.contains_eq_mem, decide_eq_false hc]; exact Bool.false_ne_true)] at k
      refine k _ c ⟨a, L', rfl, rfl, upd_same, fun p hp => ?_, by rw [pm.length_eq, List.length_cons, List.length_append, l]; rfl, fun q => ?_⟩
      · rcases List.mem_cons.mp (pm.mem_iff.mp hp) with rfl | hp
        · exact kt s
        · exact kt (t p hp)
      · rw [(pm.map (·.2)).mem_iff, List.map_cons, List.mem_cons, m q, List.mem_append, List.mem_singleton]
        constructor
        · rintro (z | z)
          · simp only [List.cons.injEq, and_true] at z
            exact .inr (Prod.ext z.1 z.2)
          · exact .inl z
        · rintro (z | rfl)
          · exact .inr z
          · exact .inl rfl
  · cases hm
theorem pe_saddP {K : PySem.W.Frag} {P : Program} {w : World} {o e : Expr} {es : List Expr} {t : TA} {apos cpos : Pos} (hu : X.A.units + 64 < cLine) (ho : PE X o to) (ha : PA X (e :: es) t) (e0 : X.K = K := by rfl) (e1 : X.prog = P := by rfl) (e2 : X.w = w := by rfl)
    (hbase : attributeBase o "add" X.env (eval o X.env) = eval o X.env := by rfl)
    (hfew : ((backTo cpos (starEach (e :: es) X.env)).all (fun x => !x.1) && (backToKw cpos (keywordEach [] X.env)).all (fun x => x.1.isSome)
      && decide ((e :: es).length + ([] : List Keyword).length + (if ([] : List Keyword).isEmpty then 0 else 1) < 30)) = true := by rfl)
    (hline : (apos.endLine == cpos.line) = true := by rfl) (hs : starEach (e :: es) X.env = (false, eval e X.env) :: starEach es X.env := by rfl) (hplain : (backTo cpos (starEach es X.env)).any (·.1) = false := by rfl) :
    PE X (.Call (.Attribute o "add" apos) (e :: es) [] cpos) (tBAdd K P w to t) := by subst e0 e1 e2; exact pe_badd hu ho ha hbase hfew hline hs hplain
end
end G

namespace G
open PySem PySem.Spec PyProof.Rows L2
theorem pg_tupk {X : Cx} {K : PySem.W.Frag} {es : List Expr} {k : Nat} {t : TGs} {n : Nat} {pos : Pos} (hc : X.calm = true) (h : PGs X es t) (e : X.K = K := by rfl)
    (hn : (assignEach es X.env).length = n := by rfl) (hst : (assignEach es X.env).findIdx? (·.1) = none := by rfl) : PG X (.Tuple es k pos) (gTup K n t) := by subst e; exact pg_tup hc h hn hst
theorem st_eqT {σ σ' : L2.St} {H : Hp} {t : TT} {Q : Bool → Hp → Prop} (e : σ = σ') (h : t σ' H Q) : t σ H Q := e ▸ h
end G

namespace G
open PySem PySem.Spec PyProof.Rows L2
section
variable {K : PySem.W.Frag} {σ σ' : L2.St} {H : Hp} {F F1 F2 Fu : List Addr} {ta tb tc te : TE} {tA : TT} {v u x y : V} {i j k : Int} {α β : Type} {τ : Ty α} {υ : Ty β} {Q : VK} {c : Bool}
/-- a < b < c -/
theorem val_chainI {p q : Int → Int → Bool} (ha : Val ta σ H (.int i)) (hb : Val tb σ H (.int j)) (hc : Val tc σ H (.int k)) : Val (tChain (rI0 fun i j => .bl (p i j)) (rI0 fun i j => .bl (q i j)) ta tb tc) σ H (.bl (p i j && q j k)) := fun Q z => by
  refine ha _ (hb _ ⟨i, j, rfl, rfl, p i j, rfl, ?_⟩)
  cases e : p i j with
  | true =>
    rw [if_pos rfl]
    refine hc _ ⟨j, k, rfl, rfl, ?_⟩
    rw [e, Bool.true_and] at z; exact z
  | false =>
    rw [if_neg Bool.false_ne_true]
    rw [e, Bool.false_and] at z; exact z
/-- a if t else b -/
theorem val_if (ht : Ans tA σ H c) (h1 : c = true → Val ta σ H v) (h2 : c = false → Val tb σ H v) : Val (tIf tA ta tb) σ H v := fun Q z => ht _ (by
  cases hc : c with
  | true => rw [if_pos rfl]; exact h1 hc _ z
  | false => rw [if_neg Bool.false_ne_true]; exact h2 hc _ z)
theorem val_ifO {A B : Option α} {z : α} {f : α → V} (ht : Ans tA σ H c) (hz : (if c = true then A else B) = some z) (h1 : A = some z → Val ta σ H (f z)) (h2 : B = some z → Val tb σ H (f z)) : Val (tIf tA ta tb) σ H (f z) :=
  val_if ht (fun hc => h1 (by rw [if_pos hc] at hz; exact hz)) fun hc => h2 (by rw [hc, if_neg Bool.false_ne_true] at hz; exact hz)
end
end G

namespace G
open PySem PySem.Spec PyProof.Rows L2
section
variable {X : Cx} {K : PySem.W.Frag} {σ σ' : L2.St} {H : Hp} {F F1 F2 Fu : List Addr} {ta tb te : TE} {v u x y : V} {Q : VK} {b c : Bool}
/-- b is True -/
def rIsB : R2 := fun x y H Q => ∃ a b, x = .bl a ∧ y = .bl b ∧ Q (.bl (decide (a = b))) H
def rNotB : R2 := fun x y H Q => ∃ a b, x = .bl a ∧ y = .bl b ∧ Q (.bl (!decide (a = b))) H
theorem op_isB : OpR X (compareOp .Is) rIsB := op_is_bl
theorem op_notB : OpR X (compareOp .IsNot) rNotB := op_isnot_bl
theorem w_isB (k : Q (.bl (decide (b = c))) H) : rIsB (.bl b) (.bl c) H Q := ⟨b, c, rfl, rfl, k⟩
theorem w_notB (k : Q (.bl (!decide (b = c))) H) : rNotB (.bl b) (.bl c) H Q := ⟨b, c, rfl, rfl, k⟩
theorem val_isB (ha : Val ta σ H (.bl b)) (hb : Val tb σ H (.bl c)) : Val (tOp rIsB ta tb) σ H (.bl (decide (b = c))) := val_op ha hb fun Q q => w_isB q
theorem val_notB (ha : Val ta σ H (.bl b)) (hb : Val tb σ H (.bl c)) : Val (tOp rNotB ta tb) σ H (.bl (!decide (b = c))) := val_op ha hb fun Q q => w_notB q
end
end G

namespace G
open PySem PySem.Spec PyProof.Rows L2
/-! ### a list of a few things of kinds of their own -/
def yHl {α : Type} (ts : Tys α) : Ty α where
  rep K H F v d := ∃ a vs G, v = .ref a ∧ F = a :: G ∧ a ∉ G ∧ H a = some (.lst vs) ∧ ts.rep K H G vs d
  keep {K H H' F v d} h k := by
    obtain ⟨a, vs, G, e, rfl, na, g, r⟩ := h
    exact ⟨a, vs, G, e, rfl, na, k a _ g (.inl (List.mem_cons_self ..)), ts.keep r fun b o hb z => k b o hb (z.imp (List.mem_cons_of_mem _) id)⟩
  dom {K H F v d} h b m := by
    obtain ⟨a, vs, G, e, rfl, na, g, r⟩ := h
    rcases List.mem_cons.mp m with rfl | m
    · exact ⟨_, g, fun z => z⟩
    · exact ts.dom r b m
section
variable {K : PySem.W.Frag} {σ σ' : L2.St} {H : Hp} {F F1 F2 Fu G : List Addr} {ta tb te : TE} {v u x y : V} {i j : Int} {α β : Type} {τ : Ty α} {υ : Ty β} {ts : Tys α} {Q : VK} {D : Ends} {nx : L2.St → Hp → Prop}
theorem itm_hl {n : Nat} {p : α → β} {d : α} (A : At ts n υ p) (r : (yHl ts).rep K H F v d) :
    ∃ u F1, υ.rep K H F1 u (p d) ∧ (∀ a ∈ F1, a ∈ F) ∧ (∀ {Q : VK}, Q u H → rIxL K v (.int (n : Int)) H Q) ∧ ∀ {σ : L2.St} {ta tb : TE}, Val ta σ H v → Val tb σ H (.int (n : Int)) → Val (tOp (rIxL K) ta tb) σ H u := by
  obtain ⟨a, vs, G, rfl, rfl, na, g, q⟩ := r
  obtain ⟨u, F1, e, ru, sub⟩ := A q
  have k : ∀ {Q : VK}, Q u H → rIxL K (.ref a) (.int (n : Int)) H Q := fun k => ⟨a, vs, n, u, rfl, rfl, .inl (.inl g), atI_nat e, k⟩
  exact ⟨u, F1, ru, fun b hb => List.mem_cons_of_mem _ (sub b hb), k, fun ha hb => val_op ha hb fun Q q => k q⟩
theorem e_hl {vs : List V} {d : α} (z : vs.length ≤ Mi.big) (r : ts.rep K H G vs d) (k : ∀ p H', H p = none → Chg [] H H' → (yHl ts).rep K H' (p :: G) (.ref p) d → Q (.ref p) H') : LstG vs H Q :=
  ⟨sz z, fun p np => k p _ np (Chg.lay np trivial) ⟨p, vs, G, rfl, rfl, (fun hp => by
    obtain ⟨o, ho, _⟩ := ts.dom r p hp
    rw [np] at ho; cases ho), upd_same, ts.keep r fun b o e _ => by rw [upd_ne (ne_of_none e np)]; exact e⟩⟩
def AllL (ts : Tys α) : Prop := ∀ {K : PySem.W.Frag} {H : Hp} {G : List Addr} {vs : List V} {d : α}, ts.rep K H G vs d → ∀ u ∈ vs, ∃ p xs, u = .ref p ∧ p ∈ G ∧ H p = some (.lst xs)
theorem als_one : AllL (sOne (yLst τ)) := fun r u m => by
  obtain ⟨w, rfl, q⟩ := r
  obtain rfl := List.mem_singleton.mp m
  obtain ⟨p, vs, rfl, rfl, g, _⟩ := q
  exact ⟨p, vs, rfl, List.mem_singleton.mpr rfl, g⟩
theorem als_cons (h : AllL ts) : AllL (sCons (yLst υ) ts) := fun r u m => by
  obtain ⟨w, ws, F1, F2, rfl, rfl, q, qs⟩ := r
  rcases List.mem_cons.mp m with rfl | m
  · obtain ⟨p, vs, rfl, rfl, g, _⟩ := q
    exact ⟨p, vs, rfl, List.mem_append_left _ (List.mem_singleton.mpr rfl), g⟩
  · obtain ⟨p, xs, e, hp, g⟩ := h qs u m
    exact ⟨p, xs, e, List.mem_append_right _ hp, g⟩
/-- for part in parts: part.clear() -/
theorem l_clear {tb : TS} {d : α} {s : Nat} (al : AllL ts) (r : (yHl ts).rep K H F v d) (hs : s < σ.length)
    (hb : ∀ (D : Ends) (σ : L2.St) (H : Hp) (p : Addr) (xs : List V), σ[s]? = some (some (.ref p)) → H p = some (.lst xs) → D.nx σ (upd H p (.lst [])) → tb D σ H)
    (hk : ∀ σ' H', Chg F H H' → (∃ y, σ' = σ.set s y) → nx σ' H') :
    ∃ a, v = .ref a ∧ (∃ xs, SqL K H a xs) ∧ LoopG (Itl K a) (gName s) tb D nx σ H := by
  obtain ⟨a, vs, G, rfl, rfl, na, g, q⟩ := r
  have hl := al q
  have ini : ∃ y, σ = σ.set s y := ⟨σ[s], (List.set_getElem_self hs).symm⟩
  refine ⟨a, rfl, ⟨vs, .inl (.inl g)⟩, fun i m σ' H' => m = vs.length - i ∧ i ≤ vs.length ∧ Chg (a :: G) H H' ∧ H' a = some (.lst vs) ∧ (∀ u ∈ vs, ∃ p xs, u = .ref p ∧ p ∈ G ∧ H' p = some (.lst xs)) ∧ (∃ y, σ' = σ.set s y), ⟨vs.length, by omega, Nat.zero_le _, Chg.refl H, g, hl, ini⟩, ?_⟩
  rintro i m σ' H' ⟨rfl, hi, c, ga, hu, y', hy⟩
  by_cases hlt : i < vs.length
  · have hv : vs[i]? = some vs[i] := List.getElem?_eq_getElem hlt
    refine .inr ⟨⟨vs, vs[i], .inl (.inl ga), hv⟩, fun σ2 H2 => i + 1 ≤ vs.length ∧ Chg (a :: G) H H2 ∧ H2 a = some (.lst vs) ∧ (∀ u ∈ vs, ∃ p xs, u = .ref p ∧ p ∈ G ∧ H2 p = some (.lst xs)) ∧ (∃ y, σ2 = σ.set s y), fun σ2 H2 p' => ⟨vs.length - (i + 1), by omega, rfl, p'⟩, fun x H2 y => ?_⟩
    obtain ⟨rfl, y⟩ := y
    obtain rfl : x = vs[i] := Option.some.inj ((y _ (.inl (.inl ga))).symm.trans hv)
    obtain ⟨p, xs, ep, hp, gp⟩ := hu _ (List.mem_of_getElem? hv)
    rw [ep]
    have hs2 : s < σ'.length := by rw [hy, List.length_set]; exact hs
    refine hb _ _ _ p xs (by show (σ'.set s (some (.ref p)))[s]? = _; rw [List.getElem?_set_self hs2]) gp ⟨hlt, ?_, ?_, fun u m => ?_, ?_⟩
    · exact c.trans ((Chg.wr gp (fun z => z)).mono fun b hb => by rw [List.mem_singleton] at hb; subst hb; exact List.mem_cons_of_mem _ hp)
    · have : a ≠ p := fun e => by subst e; exact na hp
      rw [upd_ne this]; exact ga
    · obtain ⟨p2, ys, e2, hp2, g2⟩ := hu u m
      by_cases e : p2 = p
      · subst e; exact ⟨p2, [], e2, hp2, upd_same⟩
      · exact ⟨p2, ys, e2, hp2, by rw [upd_ne e]; exact g2⟩
    · exact ⟨_, by show σ'.set s _ = _; rw [hy, List.set_set]⟩
  · obtain rfl : i = vs.length := by omega
    exact .inl ⟨⟨vs, .inl (.inl ga), Nat.le_refl _⟩, hk σ' H' c ⟨y', hy⟩⟩
end
end G

namespace L2
open PySem PySem.Spec PyProof.Rows
section
variable {prog : Program} {w : World} {A : Around} {E : Value → Shared → Prop} {s : Shared}
theorem collect_tupleA {l : Addr} {vs : List Value} {Q : List Value → Shared → Prop} (hl : s.heap.IsTuple l vs.toArray) (hsz : vs.length ≤ sizeLine)
    (h : Q vs { s with heap := (s.heap.push (seqObj "list" #[] 0)).update s.heap.objs.size (Obj.mapSeq (· ++ vs.toArray)) }) :
    wpAny (model prog w) A (collect (.ref l)) Q E s := by
  obtain ⟨o, ho, hc, n, hd⟩ := id hl
  unfold collect
  refine wpAny_bind (wpAny_runValue (codeAny_builtin entry_proto_collect' ?_))
  show wpAny _ _ (do again (.builtin "list.__iadd__" ⟨[← newList [], .ref l], []⟩)) _ _ s
  refine wpAny_bind (wpAny_newList (wpAny_pure ⟨Code.quiet_builtin _ (by decide +kernel), codeAny_builtin entry_list_iadd' ?_⟩))
  show wpAny _ _ (Builtin.List.listExtendWith (.ref s.heap.objs.size) (.ref l) (.ref s.heap.objs.size)) _ _ { s with heap := s.heap.push (seqObj "list" #[] 0) }
  unfold Builtin.List.listExtendWith
  have ho' : (s.heap.push (seqObj "list" #[] 0)).get? l = some o := Heap.get?_push_of_some _ ho
  refine wpAny_bind (wpAny_typeOf (T := "tuple") ⟨o, ho', hc⟩ ?_)
  have ht : (Value.type "tuple" == Value.type "tuple") = true := by rfl
  rw [if_pos (by rw [ht]; simp)]
  refine wpAny_bind (listItems_at ho' hd ?_)
  refine wpAny_bind (listItems_at (xs := #[]) (n := 0) (Heap.get?_push_size _ rfl) rfl ?_)
  rw [if_neg (by simp)]
  refine wpAny_bind (listUpdate_at (xs := #[]) (n := 0) (Heap.get?_push_size _ rfl) rfl ?_ (Nat.zero_le _) (by show (#[] ++ vs.toArray).size ≤ sizeLine + 1; simp only [Array.size_append, List.size_toArray, List.length_nil]; omega))
  refine wpAny_pure ?_
  show wpAny (model prog w) A (do
      let o ← load s.heap.objs.size
      match o.data with
      | .seq xs _ => pure xs.toList
      | _ => unsupported "internal:collect") Q E { s with heap := (s.heap.push (seqObj "list" #[] 0)).update s.heap.objs.size (Obj.mapSeq (· ++ vs.toArray)) }
  refine wpAny_bind (wpAny_load (get?_update_seq (Heap.get?_push_size _ rfl) _) ?_)
  show wpAny _ _ (pure ((#[] : Array Value) ++ vs.toArray).toList) Q E _
  rw [show ((#[] : Array Value) ++ vs.toArray).toList = vs by simp]
  exact wpAny_pure h
theorem sorted_ordT {l : Addr} {vs : List Value} {ltv : Value → Value → Bool} {Q : Value → Shared → Prop} (O : SrtO.Swo ltv) (hl : s.heap.IsTuple l vs.toArray) (hz : vs.length ≤ sizeLine)
    (hS : 2 ≤ vs.length → ∀ (h₁ : Heap) (a : Addr), h₁.get? a = some (seqObj "list" vs.toArray 0) → (∀ b o, s.heap.get? b = some o → b ≠ a ∧ h₁.get? b = some o) → SrtO.SortableO prog w A.in1.in1 { s with heap := h₁ } a vs ltv)
    (h : ∀ out : List Value, SrtO.Srtd ltv out → SrtO.Stb ltv out vs → Q (.ref (s.heap.objs.size + 1)) { s with heap := sortedAll s.heap vs out.toArray }) :
    wpAny (model prog w) A (call (.builtin "sorted") [.ref l]) Q E s := by
  refine Calls.call_function_entry kind_sorted plain_sorted entry_sorted (args_sorted1 _) ?_
  unfold Builtin.«sorted»
  refine wpAny_bind (m := checkCount "sorted" 1 1 _) (wpAny_pure ?_)
  refine wpAny_bind (collect_tupleA hl hz ?_)
  refine wpAny_bind (wpAny_newList ?_ hz)
  have hsz : ((s.heap.push (seqObj "list" #[] 0)).update s.heap.objs.size (Obj.mapSeq (· ++ vs.toArray))).objs.size = s.heap.objs.size + 1 := by
    rw [Heap.size_update, size_push']
  have hoL : (((s.heap.push (seqObj "list" #[] 0)).update s.heap.objs.size (Obj.mapSeq (· ++ vs.toArray))).push (seqObj "list" vs.toArray 0)).get? (s.heap.objs.size + 1) = some (seqObj "list" vs.toArray 0) := by
    rw [← hsz]; exact Heap.get?_push_size _ rfl
  have keep : ∀ b o, s.heap.get? b = some o → b ≠ s.heap.objs.size + 1 ∧ (((s.heap.push (seqObj "list" #[] 0)).update s.heap.objs.size (Obj.mapSeq (· ++ vs.toArray))).push (seqObj "list" vs.toArray 0)).get? b = some o := fun b o q => by
    have hlt : b < s.heap.objs.size := Heap.lt_size q
    refine ⟨Nat.ne_of_lt (Nat.lt_succ_of_lt hlt), Heap.get?_push_of_some _ ?_⟩
    rw [Heap.get?_update_ne _ _ _ _ (Nat.ne_of_lt hlt)]
    exact Heap.get?_push_of_some _ q
  show wpAny _ _ _ _ _ { s with heap := ((s.heap.push (seqObj "list" #[] 0)).update s.heap.objs.size (Obj.mapSeq (· ++ vs.toArray))).push (seqObj "list" vs.toArray 0) }
  rw [hsz]
  refine wpAny_bind (wpAny_holding (wpAny_call_entry slot_list_sort ⟨_, hoL, rfl⟩ entry_list_sort (SrtO.list_sort_ord O hoL hz (fun h2 => hS h2 _ _ hoL keep) fun out hs hb => ⟨_, rfl, ?_⟩) (args_list_sort _)))
  exact wpAny_pure ⟨_, rfl, h out hs hb⟩
theorem iter_intTup {l : Addr} {xs : Array (Int × Tok)} {Q : Value → Shared → Prop} (hl : s.heap.IsTuple l (intItems xs))
    (h : ∀ s₂ : Shared, s₂ = { s with heap := s.heap.push { cls := .type "tuple_iterator", data := .fields #[.ref l, .int 0 0] } } →
      (s₂.heap.IsTupleIter s.heap.objs.size l 0 ∧ s₂.heap.IsTuple l (intItems xs)) → (∀ b ∈ [s.heap.objs.size, l], b < s₂.heap.objs.size) → l ≠ s.heap.objs.size → Q (.ref s.heap.objs.size) s₂) :
    wpAny (model prog w) A (pyIter (.ref l)) Q E s := by
  have hlt : l < s.heap.objs.size := by obtain ⟨_, e, _⟩ := hl; exact Heap.lt_size e
  refine wpAny_pyIter_tuple hl (h _ rfl ⟨⟨_, Heap.get?_push_size _ rfl, rfl, rfl⟩, hl.push _⟩ (fun b hb => ?_) (Nat.ne_of_lt hlt))
  show b < (s.heap.push _).objs.size
  rw [Heap.size_push]
  rcases List.mem_cons.mp hb with rfl | hb
  · exact Nat.lt_succ_self _
  · rcases List.mem_cons.mp hb with rfl | hb
    · exact Nat.lt_succ_of_lt hlt
    · cases hb
theorem old_keptT {l : Addr} {h' : Heap} (hk : ∀ b o, b ∉ [s.heap.objs.size] → (s.heap.push { cls := .type "tuple_iterator", data := .fields #[.ref l, .int 0 0] }).get? b = some o → h'.get? b = some o) :
    ∀ b o, s.heap.get? b = some o → h'.get? b = some o := fun b o e => by
  refine hk b o (fun hm => ?_) (Heap.get?_push_of_some _ e)
  rcases List.mem_cons.mp hm with e1 | hm
  · exact absurd (e1 ▸ Heap.lt_size e) (Nat.lt_irrefl _)
  · cases hm
theorem max_intTup {l : Addr} {xs : Array (Int × Tok)} {Q : Value → Shared → Prop} (hh : A.handled = none) (hl : s.heap.IsTuple l (intItems xs)) (hne : 0 < xs.size)
    (h : ∀ v h' tk, (intItems xs)[argBest (fun i j => decide (numAt xs i > numAt xs j)) (xs.size - 1)]? = some v → (∀ b o, s.heap.get? b = some o → h'.get? b = some o) → Q v { s with heap := h', toks := tk }) :
    wpAny (model prog w) A (call (.builtin "max") [.ref l]) Q E s := by
  refine call_max_walk (iter_intTup hl fun s₂ e st hfp hlI => ?_)
  subst e
  refine ⟨_, _, _, _, _, _, _, rfl, Walks.tuple (A := A.in1) hh _ l hlI (intItems xs), st, hfp, by simpa [intItems] using hne, CmpOf.ints_gt (numAt xs) (fun _ _ => intItems_at), fun v h' tk hP hk => ?_⟩
  exact h v h' tk (by simpa [intItems] using hP) (old_keptT hk)
theorem min_intTup {l : Addr} {xs : Array (Int × Tok)} {Q : Value → Shared → Prop} (hh : A.handled = none) (hl : s.heap.IsTuple l (intItems xs)) (hne : 0 < xs.size)
    (h : ∀ v h' tk, (intItems xs)[argBest (fun i j => decide (numAt xs i < numAt xs j)) (xs.size - 1)]? = some v → (∀ b o, s.heap.get? b = some o → h'.get? b = some o) → Q v { s with heap := h', toks := tk }) :
    wpAny (model prog w) A (call (.builtin "min") [.ref l]) Q E s := by
  refine call_min_walk (iter_intTup hl fun s₂ e st hfp hlI => ?_)
  subst e
  refine ⟨_, _, _, _, _, _, _, rfl, Walks.tuple (A := A.in1) hh _ l hlI (intItems xs), st, hfp, by simpa [intItems] using hne, CmpOf.ints_lt (numAt xs) (fun _ _ => intItems_at), fun v h' tk hP hk => ?_⟩
  exact h v h' tk (by simpa [intItems] using hP) (old_keptT hk)
theorem max_rawT {l : Addr} {its : List Value} {ns : List Int} {Q : Value → Shared → Prop} (hh : A.handled = none) (hl : s.heap.IsTuple l its.toArray) (hi : IntsAre its ns) (hne : 0 < ns.length)
    (h : ∀ h' tk M t', (∀ b o, s.heap.get? b = some o → h'.get? b = some o) → M ∈ ns → (∀ a, a ∈ ns → a ≤ M) → Q (.int M t') { s with heap := h', toks := tk }) : wpAny (model prog w) A (call (.builtin "max") [.ref l]) Q E s := by
  obtain ⟨xs, e⟩ := hi.allInts.items
  have hn : numsOf (intItems xs).toList = ns := by rw [← e]; exact hi.numsOf
  rw [nums_intItems] at hn
  subst hn
  rw [e] at hl
  have hsz : 0 < xs.size := by simpa using hne
  refine max_intTup hh hl hsz fun v h' tk hv hk => ?_
  obtain ⟨t, rfl⟩ := intItems_at hv
  obtain ⟨h1, h2⟩ := argBest_gt (numAt xs) (xs.size - 1)
  refine h h' tk _ t hk ?_ fun a ha => ?_
  · rw [numAt_eq]; exact PySem.getD_mem (by rw [List.length_map, Array.length_toList]; omega)
  · obtain ⟨j, hj, rfl⟩ := mem_getD ha
    rw [List.length_map, Array.length_toList] at hj
    rw [← numAt_eq]; exact h2 j (by omega)
theorem min_rawT {l : Addr} {its : List Value} {ns : List Int} {Q : Value → Shared → Prop} (hh : A.handled = none) (hl : s.heap.IsTuple l its.toArray) (hi : IntsAre its ns) (hne : 0 < ns.length)
    (h : ∀ h' tk M t', (∀ b o, s.heap.get? b = some o → h'.get? b = some o) → M ∈ ns → (∀ a, a ∈ ns → M ≤ a) → Q (.int M t') { s with heap := h', toks := tk }) : wpAny (model prog w) A (call (.builtin "min") [.ref l]) Q E s := by
  obtain ⟨xs, e⟩ := hi.allInts.items
  have hn : numsOf (intItems xs).toList = ns := by rw [← e]; exact hi.numsOf
  rw [nums_intItems] at hn
  subst hn
  rw [e] at hl
  have hsz : 0 < xs.size := by simpa using hne
  refine min_intTup hh hl hsz fun v h' tk hv hk => ?_
  obtain ⟨t, rfl⟩ := intItems_at hv
  obtain ⟨h1, h2⟩ := argBest_lt (numAt xs) (xs.size - 1)
  refine h h' tk _ t hk ?_ fun a ha => ?_
  · rw [numAt_eq]; exact PySem.getD_mem (by rw [List.length_map, Array.length_toList]; omega)
  · obtain ⟨j, hj, rfl⟩ := mem_getD ha
    rw [List.length_map, Array.length_toList] at hj
    rw [← numAt_eq]; exact h2 j (by omega)
end
section
variable {X : Cx}
def rSortedIT (K : PySem.W.Frag) : List V → Hp → VK → Prop := fun vs H Q => ∃ (a : Addr) (ns : List Int), vs = [V.ref a] ∧ SqT K H a (ns.map V.int) ∧
  ∀ (ns' : List Int) (p : Addr), ns'.Perm ns → ns'.Pairwise (· ≤ ·) → H p = none → Q (.ref p) (upd H p (.lst (ns'.map V.int)))
def rMaxT (K : PySem.W.Frag) : List V → Hp → VK → Prop := fun vs H Q => ∃ (a : Addr) (ns : List Int), vs = [V.ref a] ∧ SqT K H a (ns.map V.int) ∧ 0 < ns.length ∧ ∀ m, m ∈ ns → (∀ y, y ∈ ns → y ≤ m) → Q (.int m) H
def rMinT (K : PySem.W.Frag) : List V → Hp → VK → Prop := fun vs H Q => ∃ (a : Addr) (ns : List Int), vs = [V.ref a] ∧ SqT K H a (ns.map V.int) ∧ 0 < ns.length ∧ ∀ m, m ∈ ns → (∀ y, y ∈ ns → m ≤ y) → Q (.int m) H
theorem cr_sortedIT : CallR X (.builtin "sorted") (rSortedIT X.K) := by
  intro pins s σ H vs us Q I r h
  obtain ⟨a, ns, rfl, hs, q⟩ := h
  obtain ⟨its, rv, hl, hz⟩ := I.tuple hs
  rw [Vals.ref1 r]
  have hi := rv.ints
  refine sorted_ordT SrtO.swo_int hl (by rw [← rv.length]; exact hz) (fun h2 h₁ a' _ _ => SrtO.ints_sortable hi h2) fun out h1 h2 => ?_
  obtain ⟨k1, k2, k3⟩ := SrtO.ints_out hi h1 h2
  obtain ⟨ep, he'⟩ := PyProof.Rows.sortedAll_at s.heap its out.toArray
  have hlen : ((out.map SrtO.iv).map V.int).length ≤ sizeLine := by
    rw [List.length_map, k2.length_eq]
    rw [List.length_map] at hz
    exact hz
  exact ⟨.ref _, upd H (s.heap.objs.size + 1) (.lst ((out.map SrtO.iv).map V.int)), I.laid (t' := s.toks) (fun _ _ => PyProof.Rows.sortedAll_old) (Nat.le_succ _) ⟨hlen, out, ep, vals_of_ints k1, he'⟩, rfl, q _ _ k2 k3 (I.hok.fresh (Nat.le_succ _))⟩
theorem cr_maxT (hc : X.calm = true) : CallR X (.builtin "max") (rMaxT X.K) := by
  intro pins s σ H vs us Q I r h
  obtain ⟨a, ns, rfl, hs, hne, q⟩ := h
  obtain ⟨its, rv, hl, _⟩ := I.tuple hs
  rw [Vals.ref1 r]
  exact max_rawT (I.ok.hd hc) hl rv.ints hne fun h' tk m t' hk h1 h2 => ⟨.int _, H, I.kept hk, ⟨_, rfl⟩, q m h1 h2⟩
theorem cr_minT (hc : X.calm = true) : CallR X (.builtin "min") (rMinT X.K) := by
  intro pins s σ H vs us Q I r h
  obtain ⟨a, ns, rfl, hs, hne, q⟩ := h
  obtain ⟨its, rv, hl, _⟩ := I.tuple hs
  rw [Vals.ref1 r]
  exact min_rawT (I.ok.hd hc) hl rv.ints hne fun h' tk m t' hk h1 h2 => ⟨.int _, H, I.kept hk, ⟨_, rfl⟩, q m h1 h2⟩
end
end L2
namespace Mi
theorem foldmin (xs : List Int) : ∀ a : Int, (xs.foldl min a = a ∨ xs.foldl min a ∈ xs) ∧ xs.foldl min a ≤ a ∧ ∀ y ∈ xs, xs.foldl min a ≤ y := by
  induction xs with
  | nil => intro a; exact ⟨.inl rfl, Int.le_refl _, fun y h => nomatch h⟩
  | cons x xs ih =>
    intro a
    obtain ⟨h1, h2, h3⟩ := ih (min a x)
    show (xs.foldl min (min a x) = a ∨ _) ∧ xs.foldl min (min a x) ≤ a ∧ _
    refine ⟨?_, by omega, fun y hy => ?_⟩
    · rcases h1 with h1 | h1
      · by_cases hax : a ≤ x
        · exact .inl (by rw [h1]; omega)
        · refine .inr (List.mem_cons.mpr (.inl ?_)); show xs.foldl min (min a x) = x; rw [h1]; omega
      · exact .inr (List.mem_cons_of_mem _ h1)
    · show xs.foldl min (min a x) ≤ y
      rcases List.mem_cons.mp hy with rfl | hy
      · omega
      · exact h3 y hy
theorem foldmax (xs : List Int) : ∀ a : Int, (xs.foldl max a = a ∨ xs.foldl max a ∈ xs) ∧ a ≤ xs.foldl max a ∧ ∀ y ∈ xs, y ≤ xs.foldl max a := by
  induction xs with
  | nil => intro a; exact ⟨.inl rfl, Int.le_refl _, fun y h => nomatch h⟩
  | cons x xs ih =>
    intro a
    obtain ⟨h1, h2, h3⟩ := ih (max a x)
    show (xs.foldl max (max a x) = a ∨ _) ∧ a ≤ xs.foldl max (max a x) ∧ _
    refine ⟨?_, by omega, fun y hy => ?_⟩
    · rcases h1 with h1 | h1
      · by_cases hax : x ≤ a
        · exact .inl (by rw [h1]; omega)
        · refine .inr (List.mem_cons.mpr (.inl ?_)); show xs.foldl max (max a x) = x; rw [h1]; omega
      · exact .inr (List.mem_cons_of_mem _ h1)
    · show y ≤ xs.foldl max (max a x)
      rcases List.mem_cons.mp hy with rfl | hy
      · omega
      · exact h3 y hy
theorem lMin_spec {xs : List Int} {m : Int} (h : lMin xs = some m) : 0 < xs.length ∧ m ∈ xs ∧ ∀ y ∈ xs, m ≤ y := by
  cases xs with
  | nil => cases h
  | cons x xs =>
    obtain rfl : (x :: xs).foldl min x = m := Option.some.inj h
    obtain ⟨h1, h2, h3⟩ := foldmin (x :: xs) x
    refine ⟨Nat.succ_pos _, ?_, h3⟩
    rcases h1 with h1 | h1
    · rw [h1]; exact List.mem_cons_self ..
    · exact h1
theorem lMax_spec {xs : List Int} {m : Int} (h : lMax xs = some m) : 0 < xs.length ∧ m ∈ xs ∧ ∀ y ∈ xs, y ≤ m := by
  cases xs with
  | nil => cases h
  | cons x xs =>
    obtain rfl : (x :: xs).foldl max x = m := Option.some.inj h
    obtain ⟨h1, h2, h3⟩ := foldmax (x :: xs) x
    refine ⟨Nat.succ_pos _, ?_, h3⟩
    rcases h1 with h1 | h1
    · rw [h1]; exact List.mem_cons_self ..
    · exact h1
end Mi
namespace G
open PySem PySem.Spec PyProof.Rows L2
section
variable {X : Cx} {K : PySem.W.Frag} {σ σ' : L2.St} {H : Hp} {F : List Addr} {v : V} {Q : VK} {m : Int}
theorem cl_sortedT {K : PySem.W.Frag} (e : X.K = K := by rfl) : CallR X (.builtin "sorted") (rSortedIT K) := by subst e; exact cr_sortedIT
theorem w_sortedT {xs : List Int} (r : (yTupL yInt).rep K H F v xs) (k : ∀ p H', H p = none → Chg [] H H' → (yLst yInt).rep K H' [p] (.ref p) (Mi.sortI xs) → Q (.ref p) H') : rSortedIT K [v] H Q := by
  obtain ⟨p, rfl, s⟩ := ints_sqT r
  refine ⟨p, xs, rfl, s, fun ns q pm so nq => ?_⟩
  rw [sorted_unique (pm.trans (sortI_perm xs).symm) so (sortI_sorted xs)]
  exact k q _ nq (Chg.lay nq trivial) ⟨q, _, rfl, rfl, upd_same, ints_mk _⟩
theorem cl_maxT {K : PySem.W.Frag} (hc : X.calm = true) (e : X.K = K := by rfl) : CallR X (.builtin "max") (rMaxT K) := by subst e; exact cr_maxT hc
theorem cl_minT {K : PySem.W.Frag} (hc : X.calm = true) (e : X.K = K := by rfl) : CallR X (.builtin "min") (rMinT K) := by subst e; exact cr_minT hc
theorem cl_maxL {K : PySem.W.Frag} (hc : X.calm = true) (e : X.K = K := by rfl) : CallR X (.builtin "max") (rMax K) := by subst e; exact cr_max hc
theorem cl_minL {K : PySem.W.Frag} (hc : X.calm = true) (e : X.K = K := by rfl) : CallR X (.builtin "min") (rMin K) := by subst e; exact cr_min hc
theorem cl_sumL {K : PySem.W.Frag} (hc : X.calm = true) (e : X.K = K := by rfl) : CallR X (.builtin "sum") (rSum K) := by subst e; exact cr_sum hc
theorem w_maxT {xs : List Int} (r : (yTupL yInt).rep K H F v xs) (h : Mi.lMax xs = some m) (k : Q (.int m) H) : rMaxT K [v] H Q := by
  obtain ⟨p, rfl, s⟩ := ints_sqT r
  obtain ⟨h1, h2, h3⟩ := Mi.lMax_spec h
  exact ⟨p, xs, rfl, s, h1, fun z hz ha => by rw [show z = m from Int.le_antisymm (h3 z hz) (ha m h2)]; exact k⟩
theorem w_minT {xs : List Int} (r : (yTupL yInt).rep K H F v xs) (h : Mi.lMin xs = some m) (k : Q (.int m) H) : rMinT K [v] H Q := by
  obtain ⟨p, rfl, s⟩ := ints_sqT r
  obtain ⟨h1, h2, h3⟩ := Mi.lMin_spec h
  exact ⟨p, xs, rfl, s, h1, fun z hz ha => by rw [show z = m from Int.le_antisymm (ha m h2) (h3 z hz)]; exact k⟩
theorem w_maxL {xs : List Int} (r : (yLst yInt).rep K H F v xs) (h : Mi.lMax xs = some m) (k : Q (.int m) H) : rMax K [v] H Q := by
  obtain ⟨p, rfl, s⟩ := ints_sqL r
  obtain ⟨h1, h2, h3⟩ := Mi.lMax_spec h
  exact ⟨p, xs, rfl, s, h1, fun z hz ha => by rw [show z = m from Int.le_antisymm (h3 z hz) (ha m h2)]; exact k⟩
theorem w_minL {xs : List Int} (r : (yLst yInt).rep K H F v xs) (h : Mi.lMin xs = some m) (k : Q (.int m) H) : rMin K [v] H Q := by
  obtain ⟨p, rfl, s⟩ := ints_sqL r
  obtain ⟨h1, h2, h3⟩ := Mi.lMin_spec h
  exact ⟨p, xs, rfl, s, h1, fun z hz ha => by rw [show z = m from Int.le_antisymm (ha m h2) (h3 z hz)]; exact k⟩
theorem w_sumL {xs : List Int} (r : (yLst yInt).rep K H F v xs) (k : Q (.int xs.sum) H) : rSum K [v] H Q := by
  obtain ⟨p, rfl, s⟩ := ints_sqL r
  exact ⟨p, xs, rfl, s, k⟩
end
/-! ### defaults that are tuples -/
def kwdAt (f : Str × Option Str) (x : Str) (K : PySem.W.Frag) : Addr := match K.lookup (He.fAd K f) with
  | some ⟨_, _, .func fd, _⟩ => (match fd.kwdefaults with
    | .ref D => (match PySem.W.nsIn K D x with
      | some (some (.ref a)) => a
      | _ => 0)
    | _ => 0)
  | _ => 0
def tupAt (K : PySem.W.Frag) (a : Addr) (vs : List He.Dv) : Bool := match K.lookup a with
  | some ⟨.type c, _, .seq its _, _⟩ => decide (c = "tuple") && (decide (its.size ≤ sizeLine) && He.relAll (vs.map (He.Dv.v K)) its.toList)
  | _ => false
theorem tupAt_ok {K : PySem.W.Frag} {a : Addr} {vs : List He.Dv} (h : tupAt K a vs = true) (H : Hp) : SqT K H a (vs.map (He.Dv.v K)) := by
  unfold tupAt at h
  cases q : K.lookup a with
  | none =>
    rw [q] at h
    cases h
  | some o =>
    obtain ⟨oc, od, dt, osl⟩ := o
    rw [q] at h
    cases oc with
    | type c =>
      cases dt with
      | seq its n =>
        obtain ⟨h1, h2⟩ := He.ba (show (decide (c = "tuple") && (decide (its.size ≤ sizeLine) && He.relAll (vs.map (He.Dv.v K)) its.toList)) = true from h)
        obtain ⟨h3, h4⟩ := He.ba h2
        exact .inr ⟨_, its, n, q, congrArg Value.type (of_decide_eq_true h1), rfl, of_decide_eq_true h3, He.relAll_ok h4⟩
      | _ => cases h
    | _ => cases dt <;> cases h
theorem tupAt_ints {K : PySem.W.Frag} {a : Addr} {ns : List Int} (h : tupAt K a (ns.map He.Dv.int) = true) (H : Hp) : (yTupL yInt).rep K H [] (.ref a) ns :=
  ⟨a, ns.map V.int, rfl, rfl, by have := tupAt_ok h H; rw [List.map_map] at this; exact this, ints_mk ns⟩
def permG (ix : List Nat) {α : Type} (us mv ws : List α) : List α := ix.filterMap fun i => (us ++ (mv ++ ws))[i]?
theorem vals_at {vs : List V} {us : List Value} (r : Vals vs us) (i : Nat) : (vs[i]? = none ∧ us[i]? = none) ∨ ∃ v u, vs[i]? = some v ∧ us[i]? = some u ∧ RelV v u := by
  induction r generalizing i with
  | nil => exact .inl ⟨rfl, rfl⟩
  | cons h t ih =>
    cases i with
    | zero => exact .inr ⟨_, _, rfl, rfl, h⟩
    | succ i => exact ih i
theorem vals_app {vs zs : List V} {us ws : List Value} (r : Vals vs us) (q : Vals zs ws) : Vals (vs ++ zs) (us ++ ws) := by
  induction r with
  | nil => exact q
  | cons h t ih => exact .cons h ih
theorem permG_rel (ix : List Nat) {vs mz zs : List V} {us mv ws : List Value} (r1 : Vals vs us) (r2 : Vals mz mv) (r3 : Vals zs ws) : Vals (permG ix vs mz zs) (permG ix us mv ws) := by
  have r := vals_app r1 (vals_app r2 r3)
  unfold permG
  induction ix with
  | nil => exact .nil
  | cons i ix ih =>
    rcases vals_at r i with ⟨e1, e2⟩ | ⟨v, u, e1, e2, h⟩
    · rw [List.filterMap_cons_none e1, List.filterMap_cons_none e2]; exact ih
    · rw [List.filterMap_cons_some e1, List.filterMap_cons_some e2]; exact .cons h ih
/-! ### the head's hook with a check of one's own -/
def obsEG (n : Nat) (fa : List He.Fa) (fn : List He.DefD) (ex : PySem.W.Frag → Bool) (g : Addr → Option Obj) : He.AlD × Bool := (He.obsD fa fn (He.frG g (He.asD g n)), ex (He.frG g (He.asD g n)))
def hookE (n : Nat) (fa : List He.Fa) (fn : List He.DefD) (ex : PySem.W.Frag → Bool) : PySem.W.Hook where
  α := He.AlD × Bool
  obs := fun s => obsEG n fa fn ex s.heap.get?
  val := fun _ => (He.valD fn, true)
  says := fun _ h => ∃ K : PySem.W.Frag, K.In h ∧ (He.SaysD fa fn K ∧ ex K = true)
  of := fun _ _ e => ⟨_, He.frG_in, congrArg Prod.fst e, congrArg Prod.snd e⟩
  keeps := fun _ _ _ ⟨K, hK, c⟩ k => ⟨K, PySem.W.Frag.In.keeps hK k, c⟩
theorem obsEG_eq {n : Nat} {fa : List He.Fa} {fn : List He.DefD} {ex : PySem.W.Frag → Bool} {g : Addr → Option Obj} {s : Shared} (h : ∀ a, g a = s.heap.get? a) : obsEG n fa fn ex g = (hookE n fa fn ex).obs s := by
  have e : g = s.heap.get? := funext h
  rw [e] <;> rfl
end G

namespace G
open PySem PySem.Spec PyProof.Rows L2
section
variable {X : Cx} {P : Program} {w : World} {K : PySem.W.Frag} {σ σ' : L2.St} {H : Hp} {F F1 F2 Fu : List Addr} {ta tb te to : TE} {v u x y : V} {i j : Int} {Q : VK} {α : Type} {τ : Ty α} {n : Nat}
/-! ### x in a list of data -/
theorem units1 {k : Nat} {A : Around} (r : Room k A) : A.units + 65 < cLine := by have := r.un; omega
theorem op_in_d {K : PySem.W.Frag} (hu : X.A.units + 65 < cLine) (e : X.K = K := by rfl) : OpR X (compareOp .In) (rInD K) := by subst e; exact op_inD hu
theorem op_ni_d {K : PySem.W.Frag} (hu : X.A.units + 65 < cLine) (e : X.K = K := by rfl) : OpR X (compareOp .NotIn) (rNotInD K) := by subst e; exact op_notInD hu
theorem any_eqv [BEq α] [LawfulBEq α] (d : Dat τ n) (xs : List α) (x : α) : ((xs.map d.f).any fun z => PyData.eqv z (d.f x)) = xs.contains x := by
  letI := d.dec
  induction xs with
  | nil => rfl
  | cons y ys ih =>
    rw [List.map_cons, List.any_cons, ih, d.eqv, List.contains_cons]
    congr 1
    by_cases e : y = x
    · subst e; simp
    · rw [decide_eq_false e, beq_eq_false_iff_ne.mpr (Ne.symm e)]
theorem w_inD [BEq α] [LawfulBEq α] {xs : List α} {d : α} (D : Dat τ n) (r : (yLst τ).rep K H F v xs) (q : τ.rep K H F2 u d) (k : Q (.bl (xs.contains d)) H) (hn : n + 1 ≤ 64 := by decide) : rInD K u v H Q :=
  ⟨_, _, D.dp q, (dat_lst D).dp r, D.shaped (by omega) d, (dat_lst D).shaped hn xs, by rw [any_eqv]; exact k⟩
theorem w_niD [BEq α] [LawfulBEq α] {xs : List α} {d : α} (D : Dat τ n) (r : (yLst τ).rep K H F v xs) (q : τ.rep K H F2 u d) (k : Q (.bl (!xs.contains d)) H) (hn : n + 1 ≤ 64 := by decide) : rNotInD K u v H Q :=
  ⟨_, _, D.dp q, (dat_lst D).dp r, D.shaped (by omega) d, (dat_lst D).shaped hn xs, by rw [any_eqv]; exact k⟩
theorem w_inDG [BEq α] [LawfulBEq α] {xs : List α} {d : α} (D : Dat τ n) (r : (yLsg τ).rep K H F v xs) (q : τ.rep K H F2 u d) (k : Q (.bl (xs.contains d)) H) (hn : n + 1 ≤ 64 := by decide) : rInD K u v H Q :=
  ⟨_, _, D.dp q, (dat_lsg D).dp r, D.shaped (by omega) d, (dat_lsg D).shaped hn xs, by rw [any_eqv]; exact k⟩
theorem w_niDG [BEq α] [LawfulBEq α] {xs : List α} {d : α} (D : Dat τ n) (r : (yLsg τ).rep K H F v xs) (q : τ.rep K H F2 u d) (k : Q (.bl (!xs.contains d)) H) (hn : n + 1 ≤ 64 := by decide) : rNotInD K u v H Q :=
  ⟨_, _, D.dp q, (dat_lsg D).dp r, D.shaped (by omega) d, (dat_lsg D).shaped hn xs, by rw [any_eqv]; exact k⟩
/-! ### a pair as a tuple of ints -/
theorem pair_tupl {d : Int × Int} (r : yPair.rep K H F v d) : (yTupL yInt).rep K H [] v [d.1, d.2] := by
  obtain ⟨rfl, a, rfl, s⟩ := pair_sq r
  exact ⟨a, _, rfl, rfl, s, .cons ⟨rfl, rfl⟩ (.cons ⟨rfl, rfl⟩ .nil)⟩
/-! ### any, all -/
theorem bools_sqL {xs : List Bool} (r : (yLst yBool).rep K H F v xs) : ∃ a, v = .ref a ∧ SqL K H a (xs.map V.bl) := by
  obtain ⟨a, vs, rfl, s, q⟩ := lst_sq r
  have e : vs = xs.map V.bl := by
    clear s r
    induction q with
    | nil => rfl
    | cons h t ih => obtain ⟨_, rfl⟩ := h; rw [ih]; rfl
  subst e
  exact ⟨a, rfl, s⟩
theorem cl_anyL {K : PySem.W.Frag} (hc : X.calm = true) (e : X.K = K := by rfl) : CallR X (.builtin "any") (rAny K) := by subst e; exact cr_any hc
theorem cl_allL {K : PySem.W.Frag} (hc : X.calm = true) (e : X.K = K := by rfl) : CallR X (.builtin "all") (rAll K) := by subst e; exact cr_all hc
theorem w_anyL {xs : List Bool} (r : (yLst yBool).rep K H F v xs) (k : Q (.bl (xs.any id)) H) : rAny K [v] H Q := by
  obtain ⟨a, rfl, s⟩ := bools_sqL r
  exact ⟨a, xs, rfl, s, k⟩
theorem w_allL {xs : List Bool} (r : (yLst yBool).rep K H F v xs) (k : Q (.bl (xs.all id)) H) : rAll K [v] H Q := by
  obtain ⟨a, rfl, s⟩ := bools_sqL r
  exact ⟨a, xs, rfl, s, k⟩
/-! ### list * int -/
theorem pr_rep {R : V → α → Prop} {vs : List V} {xs : List α} (q : Paired R vs xs) : ∀ k : Nat, Paired R (List.replicate k vs).flatten (List.replicate k xs).flatten
  | 0 => .nil
  | k + 1 => by
    rw [List.replicate_succ, List.replicate_succ, List.flatten_cons, List.flatten_cons]
    exact pr_app q (pr_rep q k)
theorem w_rep {xs zs : List α} (r : (yLst τ).rep K H F v xs) (hm : Mi.repL xs i = some zs) (k : ∀ p H', H p = none → Chg [] H H' → (yLst τ).rep K H' [p] (.ref p) zs → Q (.ref p) H') : rRep v (.int i) H Q := by
  obtain ⟨a, vs, rfl, rfl, g, q⟩ := r
  unfold Mi.repL at hm
  split at hm
  · rename_i hc
    obtain rfl := Option.some.inj hm
    refine ⟨a, i, vs, rfl, rfl, g, by omega, by omega, ?_, fun p np => k p _ np (Chg.lay np trivial) ⟨p, _, rfl, rfl, upd_same, ?_⟩⟩
    · rw [Paired.length q]
      exact Nat.le_trans hc.2.2 (by rw [sizeLine_eq]; decide)
    · exact pr_rep (Paired.mapP q fun _ _ z => Ty.ex z (Chg.lay (o := .lst _) np trivial)) i.toNat
  · cases hm
/-! ### list(range(..)) -/
def LrG1 (x : V) (H : Hp) (Q : VK) : Prop := ∃ n, x = .int n ∧ (RgOk 0 n ∧ ∀ q, H q = none → Q (.ref q) (upd H q (.lst (rgV 0 n))))
def LrG2 (x y : V) (H : Hp) (Q : VK) : Prop := ∃ i j, x = .int i ∧ y = .int j ∧ (RgOk i j ∧ ∀ q, H q = none → Q (.ref q) (upd H q (.lst (rgV i j))))
theorem w_lrng1 (h : ta σ H fun x H1 => LrG1 x H1 Q) : tLstRg (tRg1 ta) σ H Q := h
theorem w_lrng2 (h : ta σ H fun x H1 => tb σ H1 fun y H2 => LrG2 x y H2 Q) : tLstRg (tRg2 ta tb) σ H Q := h
theorem rg_ints (a b : Int) : Paired (fun u x => yInt.rep K H [] u x) (rgV a b) (Mi.rng a b) := by
  unfold rgV Mi.rng
  induction List.range (b - a).toNat with
  | nil => exact .nil
  | cons k ks ih => exact .cons ⟨rfl, rfl⟩ ih
theorem rgL_ok {lo hi : Int} {xs : List Int} (hm : Mi.rngL lo hi = some xs) : RgOk lo hi ∧ xs = Mi.rng lo hi := by
  unfold Mi.rngL at hm
  split at hm
  · exact ⟨⟨by omega, by omega, by omega, by omega, by omega⟩, (Option.some.inj hm).symm⟩
  · cases hm
theorem x_lrng {lo hi : Int} {xs : List Int} (hm : Mi.rngL lo hi = some xs) (k : ∀ p H', H p = none → Chg [] H H' → (yLst yInt).rep K H' [p] (.ref p) xs → Q (.ref p) H') : RgOk lo hi ∧ ∀ q, H q = none → Q (.ref q) (upd H q (.lst (rgV lo hi))) := by
  obtain ⟨h1, rfl⟩ := rgL_ok hm
  exact ⟨h1, fun q nq => k q _ nq (Chg.lay nq trivial) ⟨q, _, rfl, rfl, upd_same, rg_ints lo hi⟩⟩
theorem x_lrng1 {hi : Int} {xs : List Int} (hm : Mi.rngL 0 hi = some xs) (k : ∀ p H', H p = none → Chg [] H H' → (yLst yInt).rep K H' [p] (.ref p) xs → Q (.ref p) H') : LrG1 (.int hi) H Q := ⟨hi, rfl, x_lrng hm k⟩
theorem x_lrng2 {lo hi : Int} {xs : List Int} (hm : Mi.rngL lo hi = some xs) (k : ∀ p H', H p = none → Chg [] H H' → (yLst yInt).rep K H' [p] (.ref p) xs → Q (.ref p) H') : LrG2 (.int lo) (.int hi) H Q := ⟨lo, hi, rfl, rfl, x_lrng hm k⟩
theorem opt_n : (yOpt τ).rep K H [] .non (none : Option α) := ⟨rfl, rfl⟩
theorem opt_i {d : α} (nn : v ≠ .non) (r : τ.rep K H F v d) : (yOpt τ).rep K H F v (some d) := ⟨nn, r⟩
theorem Ty.freshOr {G Fp : List Addr} {d : α} (r : τ.rep K H F v d) (np : ∀ a ∈ G, H a = none ∨ a ∈ Fp) (dj : Dj F Fp) : Dj F G := fun a h z => by
  rcases np a z with e | e
  · obtain ⟨o, e2, _⟩ := τ.dom r a h
    rw [e] at e2; cases e2
  · exact dj a h e
/-! ### defs with defaults -/
theorem w_callN {n m : Nat} {sp : Sp} {gV : List V → List V → List V} {E : XK} {t tk : TA} (h : t σ H fun vs H1 => tk σ H1 fun zs H2 => vs.length = n ∧ zs.length = m ∧ sp (gV vs zs) H2 Q E) : tCallN n m sp gV E t tk σ H Q := h
end
theorem okD {P : Program} {w : World} {K : PySem.W.Frag} {mg : Str → Option Value} {base : Heap} {x qual : Str} {params : Arguments} {body : List Stmt} {scope : Scope} {dvs : List V} {kws : List (Str × V)} {f : Addr} {fd : FuncData} {N ps : List Str} {k : Nat} {sp : Sp} (F : FunD K x qual params body scope dvs kws f fd) (S : FnScope N ps scope) (len : ∀ vs H Q E, sp vs H Q E → vs.length = ps.length)
    (hbody : ∀ (cdv : Value) (A : Around) (outer : List Env) (s : Shared) (H : Hp) (vs : List V) (Q : VK) (E : XK), Room k (A.deeper (envOfC qual scope s.heap.objs.size f cdv)) → sp vs H Q E →
      ∃ t, PSs (cxOf CX0 P w K mg base N qual scope f cdv A outer s H E).nox body t ∧ t { nx := fun _ H' => Q .non H', rt := Q } (start N vs) H) : FnOk P w K mg base CX0 (k + 1) f fd ps sp :=
  F.ok S len fun cdv A outer s H vs Q E hr hsp => by
    obtain ⟨t, h, q⟩ := hbody cdv A outer s H vs Q E hr hsp
    exact ⟨t, h.nox, q⟩
structure DfnD (K : PySem.W.Frag) (mg : Str → Option Value) (x : Str) (st : Stmt) (dvs : List V) : Prop where
  ex : ∃ f fd, FunD K x x (defArgs st) (defBody st) (defScope st) dvs [] f fd ∧ mg x = some (.ref f)
structure CalD (P : Program) (w : World) (K : PySem.W.Frag) (mg : Str → Option Value) (x : Str) (st : Stmt) (dvs : List V) (ps : List Str) (k : Nat) (sp : Sp) : Prop where
  ex : ∃ f fd, mg x = some (.ref f) ∧ FunD K x x (defArgs st) (defBody st) (defScope st) dvs [] f fd ∧ ∀ base : Heap, FnOk P w K mg base CX0 k f fd ps sp
end G

namespace G
open PySem PySem.Spec PyProof.Rows L2
section
variable {X : Cx} {P : Program} {w : World} {K : PySem.W.Frag} {σ σ' : L2.St} {H : Hp} {F F1 F2 Fu : List Addr} {ta tb te to : TE} {tA : TT} {v u x y : V} {i j : Int} {Q : VK} {α β : Type} {τ : Ty α} {υ : Ty β} {n : Nat} {g : TG} {tt : TT} {ws : List Nat}
theorem j_if (R : V → Hp → Prop) (h : ∀ Q' : VK, (∀ x H', R x H' → Q' x H') → te σ H Q') (k : ∀ x H', R x H' → Q x H') : te σ H Q := h Q k
theorem w_ife (h : tA σ H fun c H1 => if c = true then ta σ H1 Q else tb σ H1 Q) : tIf tA ta tb σ H Q := h
theorem or_app {F G : List Addr} {p : Addr → Prop} (h1 : ∀ a ∈ F, p a) (h2 : ∀ a ∈ G, p a) : ∀ a ∈ F ++ G, p a := fun a h => by
  rcases List.mem_append.mp h with h | h
  · exact h1 a h
  · exact h2 a h
/-! ### sorted(a set of ints) -/
theorem cl_sortedSet {w : World} (hc : X.calm = true) (e : X.w = w := by rfl) : CallR X (.builtin "sorted") (rSortedSet w) := by subst e; exact cr_sortedSet hc
theorem asc_unique : ∀ {xs ys : List Int}, xs.Pairwise (· < ·) → ys.Pairwise (· ≤ ·) → ys.Nodup → (∀ a, a ∈ xs ↔ a ∈ ys) → xs = ys
  | [], [], _, _, _, _ => rfl
  | [], y :: ys, _, _, _, h => absurd ((h y).mpr (List.mem_cons_self ..)) List.not_mem_nil
  | x :: xs, [], _, _, _, h => absurd ((h x).mp (List.mem_cons_self ..)) List.not_mem_nil
  | x :: xs, y :: ys, h1, h2, h3, h => by
    have p1 := List.pairwise_cons.mp h1
    have p2 := List.pairwise_cons.mp h2
    have p3 := List.nodup_cons.mp h3
    have e : x = y := by
      rcases List.mem_cons.mp ((h x).mp (List.mem_cons_self ..)) with e | e
      · exact e
      · rcases List.mem_cons.mp ((h y).mpr (List.mem_cons_self ..)) with e2 | e2
        · exact e2.symm
        · have := p1.1 y e2
          have := p2.1 x e
          omega
    subst e
    rw [asc_unique p1.2 p2.2 p3.2 fun a => ?_]
    constructor
    · intro ha
      rcases List.mem_cons.mp ((h a).mp (List.mem_cons_of_mem _ ha)) with e | e
      · subst e; have := p1.1 a ha; omega
      · exact e
    · intro ha
      rcases List.mem_cons.mp ((h a).mpr (List.mem_cons_of_mem _ ha)) with e | e
      · subst e; exact absurd ha p3.1
      · exact e
/-- fewer than 64 members, none twice -/
theorem w_sortedS {w : World} {xs : List Int} {z : Unit} (r : (ySet w).rep K H F v xs) (hz : Mi.guardO (decide (xs.length < 64) && decide xs.Nodup) = some z) (k : ∀ p H', H p = none → Chg [] H H' → (yLst yInt).rep K H' [p] (.ref p) (Mi.sortI xs) → Q (.ref p) H') : rSortedSet w [v] H Q := by
  obtain ⟨a, rfl, rfl, g⟩ := r
  unfold Mi.guardO at hz
  split at hz
  · rename_i hc
    rw [Bool.and_eq_true, decide_eq_true_eq, decide_eq_true_eq] at hc
    refine ⟨a, _, _, rfl, g, hc.1, fun ns p hp hm hl np => ?_⟩
    have e : ns = Mi.sortI xs := asc_unique hp (sortI_sorted xs) ((sortI_perm xs).nodup_iff.mpr hc.2) fun b => by
      rw [hm, (sortI_perm xs).mem_iff, List.contains_iff_mem]
    subst e
    exact k p _ np (Chg.lay np trivial) ⟨p, _, rfl, rfl, upd_same, ints_mk _⟩
  · cases hz
/-! ### a comprehension over enumerate -/
theorem kc_enum {xs : List β} (r : (yLst υ).rep K H F v xs) (Pv : Addr → Nat → Hp → Prop) (h0 : ∀ D H', H D = none → Chg [] H H' → (yLst τ).rep K H' [D] (.ref D) [] → Pv D 0 H') (hl : ∀ D i H', Pv D i H' → (yLst υ).rep K H' F v xs)
    (hs : ∀ D (i : Nat) (x : Int × β) (u : V) H' H2, (Mi.enumF 0 xs)[i]? = some x → Chg [] H' H2 → (yTup (sCons yInt (sOne υ))).rep K H2 [] u x → Pv D i H' → TurnG g tt te ws σ D (Pv D (i + 1)) u H2) (hd : ∀ D H', H D = none → Pv D (Mi.enumF 0 xs).length H' → Q (.ref D) H') :
    ∃ a xs, [v] = [.ref a] ∧ SqL K H a xs ∧ CompG (Ite K a) g tt te ws σ H Q := by
  obtain ⟨a, vs, e, s, q⟩ := lst_sq r
  refine ⟨a, vs, by rw [e], s, comp_by (K := K) (τ := τ) xs.length Pv h0 (fun D i H' hi p => ?_) (fun D H' hD p => ?_)⟩
  · obtain ⟨a', vs', e', s', q'⟩ := lst_sq (hl D i H' p)
    obtain rfl : a = a' := by rw [e] at e'; exact V.ref.inj e'
    obtain ⟨u, hu, ru⟩ := pr_get q' (List.getElem?_eq_getElem hi)
    refine ⟨⟨vs', u, s', hu⟩, fun x H2 y => ?_⟩
    obtain ⟨T, w, rfl, nT, rfl, y⟩ := y
    obtain rfl : w = u := Option.some.inj ((y _ s').symm.trans hu)
    have hx := enumF_at 0 xs i (List.getElem?_eq_getElem hi)
    have e0 : (0 : Int) + (i : Int) = (i : Int) := Int.zero_add _
    rw [e0] at hx
    have c : Chg [] H' (upd H' T (.tup [.int (i : Nat), w])) := Chg.lay nT trivial
    exact hs D i _ _ _ _ hx c ⟨T, _, rfl, .inl (.inl upd_same), _, _, [], [], rfl, rfl, ⟨rfl, rfl⟩, _, rfl, Ty.ex ru c⟩ p
  · obtain ⟨a', vs', e', s', q'⟩ := lst_sq (hl D _ H' p)
    obtain rfl : a = a' := by rw [e] at e'; exact V.ref.inj e'
    exact ⟨⟨vs', s', by rw [pr_len q']; exact Nat.le_refl _⟩, hd D H' hD (by rw [enumF_len]; exact p)⟩
end
end G

namespace L2
open PySem PySem.Spec PyProof.Rows
section
variable {X : Cx} {e e3 : Expr} {te : TE} {t3 : TO} {pos p2 : Pos}
/-- xs[::k] of a list, k fixed: pv picks -/
def tSlK (K : PySem.W.Frag) (k : Int) (pv : List V → List V) (te : TE) (t3 : TO) : TE := fun σ H Q => te σ H fun x H1 => t3 σ H1 fun st H2 => st = some k ∧ ∃ a xs, x = .ref a ∧ SqL K H2 a xs ∧ ∀ p, H2 p = none → Q (.ref p) (upd H2 p (.lst (pv xs)))
theorem pe_sliceK {k : Int} {pv : List V → List V} {pick : List Value → List Value} (hk : k ≠ 0) (hp : ∀ its : List Value, slicePick its.toArray none none (some k) = (pick its).toArray) (hv : ∀ {xs : List V} {its : List Value}, Vals xs its → Vals (pv xs) (pick its)) (hl : ∀ xs : List V, (pv xs).length ≤ xs.length)
    (he : PE X e te) (h3 : PO X (some e3) t3) : PE X (.Subscript e (.Slice none none (some e3) p2) pos) (tSlK X.K k pv te t3) := by
  refine ⟨fun pins s σ H Q I h => ?_⟩
  refine Subscript_ (thn (he.run pins s σ H _ I h) fun v s1 ⟨x, H1, I1, r1, q1⟩ => ?_)
  refine wpAny_Slice ?_
  rw [evalPart_none]
  refine wpAny_pure (wpAny_pure ?_)
  refine thn (h3.run pins s1 σ H1 _ I1 q1) fun vst s3 ⟨st, H3, I3, pst, q3⟩ => ?_
  obtain ⟨rfl, a, xs, rfl, hx, q⟩ := q3
  have I4 : Inv X pins σ H3 { s3 with heap := s3.heap.push { cls := .type "slice", data := .fields #[.none, .none, vst] } } := I3.kept (t' := s3.toks) fun b ob q => Heap.get?_push_of_some _ q
  cases r1
  obtain ⟨its, r, ht, hz⟩ := I4.list hx
  have hlen := r.length
  have hs : Heap.IsSliceOf (s3.heap.push { cls := .type "slice", data := .fields #[.none, .none, vst] }) s3.heap.objs.size .none .none vst := Heap.IsSliceOf.new ..
  show wpAny (model X.prog X.w) X.A (subscriptTail e (.Slice none none (some e3) p2) (.ref a) (.ref s3.heap.objs.size)) (EP X pins σ Q) X.xe { s3 with heap := s3.heap.push { cls := .type "slice", data := .fields #[.none, .none, vst] } }
  refine tail_any (ops := [.ref a, .ref s3.heap.objs.size]) ht.isList.typeIs slot_list_getitem.lookup ?_ (by with_unfolding_all rfl)
  refine wpAny_getItem_list_slice (s := { s3 with heap := s3.heap.push { cls := .type "slice", data := .fields #[.none, .none, vst] } }) ht.isList hs .none .none pst (fun z => hk (Option.some.inj z)) ?_ (by rw [List.size_toArray] <;> omega)
  rw [hp]
  refine ⟨.ref _, _, I4.laid (t' := s3.toks) (o := .lst (pv xs)) (fun b ob q => Heap.get?_push_of_some _ q) (Nat.le_refl _) ?_, rfl, q _ (I4.hok.fresh (Nat.le_refl _))⟩
  exact ⟨Nat.le_trans (hl xs) hz, _, 0, hv r, Heap.get?_push_size _ rfl⟩
end
theorem pick_rev (its : List Value) : slicePick its.toArray none none (some (-1)) = its.reverse.toArray := PySem.W.krv_pick its.toArray
theorem evens_pick {α : Type} : ∀ (xs : List α) (a : Nat) (ys : List α), ys.drop a = xs → (List.range ((xs.length + 1) / 2)).filterMap (fun k => ys[a + 2 * k]?) = Mi.evens xs
  | [], a, ys, _ => by simp [Mi.evens]
  | [x], a, ys, h => by
    have h1 : ys[a]? = some x := by
      have z := congrArg (fun l => l[0]?) h
      simpa using z
    have e : ([x].length + 1) / 2 = 1 := by simp
    rw [e, show List.range 1 = [0] from rfl, List.filterMap_cons_some (b := x) (by simpa using h1)]; rfl
  | x :: y :: r, a, ys, h => by
    have h1 : ys[a]? = some x := by
      have z := congrArg (fun l => l[0]?) h
      simpa using z
    have hd : ys.drop (a + 2) = r := by rw [← List.drop_drop, h]; rfl
    have ih := evens_pick r (a + 2) ys hd
    have hl : (x :: y :: r).length = r.length + 2 := rfl
    rw [show ((x :: y :: r).length + 1) / 2 = (r.length + 1) / 2 + 1 by rw [hl]; omega, List.range_succ_eq_map, List.filterMap_cons_some (b := x) (by simpa using h1), List.filterMap_map]
    show x :: _ = x :: Mi.evens r
    rw [← ih]
    have ef : ((fun k => ys[a + 2 * k]?) ∘ Nat.succ) = fun k => ys[a + 2 + 2 * k]? := funext fun k => by
      show ys[a + 2 * (k + 1)]? = ys[a + 2 + 2 * k]?
      rw [show a + 2 * (k + 1) = a + 2 + 2 * k by omega]
    rw [ef]
theorem pick_even (its : List Value) : slicePick its.toArray none none (some 2) = (Mi.evens its).toArray := by
  have e : sliceBounds none none (some 2) its.toArray.size = (0, (its.length : Int), 2) := by
    rw [List.size_toArray]; rfl
  unfold slicePick
  rw [e]
  have e2 : sliceRange 0 (its.length : Int) 2 = (List.range ((its.length + 1) / 2)).map fun k => 0 + 2 * k := by
    unfold sliceRange
    simp only [show (2 : Int) > 0 by decide, if_true]
    by_cases h : (0 : Int) < its.length
    · rw [if_pos h, show (((its.length : Int) - 0 + 2 - 1) / 2).toNat = (its.length + 1) / 2 by omega]
      apply List.map_congr_left
      intro k _
      omega
    · rw [if_neg h, show (its.length + 1) / 2 = 0 by omega]; rfl
  simp only [e2, List.filterMap_map]
  congr 1
  have := evens_pick its 0 its rfl
  rw [← this]
  have ef : ((fun i => its.toArray[i]?) ∘ fun k => 0 + 2 * k) = fun k => its[0 + 2 * k]? := funext fun k => by
    show its.toArray[0 + 2 * k]? = its[0 + 2 * k]?
    rw [List.getElem?_toArray]
  rw [← ef]
theorem vals_evens {R : V → Value → Prop} : ∀ {xs : List V} {us : List Value}, Paired R xs us → Paired R (Mi.evens xs) (Mi.evens us)
  | _, _, .nil => .nil
  | _, _, .cons h .nil => .cons h .nil
  | _, _, .cons h (.cons _ t) => .cons h (vals_evens t)
theorem evens_len {α : Type} : ∀ xs : List α, (Mi.evens xs).length ≤ xs.length
  | [] => Nat.le_refl _
  | [_] => Nat.le_refl _
  | _ :: _ :: r => by
    have := evens_len r
    show (Mi.evens r).length + 1 ≤ r.length + 1 + 1
    omega
end L2
namespace G
open PySem PySem.Spec PyProof.Rows L2
section
variable {X : Cx} {P : Program} {w : World} {K : PySem.W.Frag} {σ σ' : L2.St} {H : Hp} {F F1 F2 Fu : List Addr} {ta tb te to : TE} {v u x y : V} {i j : Int} {Q : VK} {α β : Type} {τ : Ty α} {υ : Ty β}
def slRev (K : PySem.W.Frag) (te : TE) (t3 : TO) : TE := tSlK K (-1) List.reverse te t3
def slEven (K : PySem.W.Frag) (te : TE) (t3 : TO) : TE := tSlK K 2 Mi.evens te t3
theorem vals_rev {xs : List V} {us : List Value} (r : Vals xs us) : Vals xs.reverse us.reverse := r.reverse
theorem pe_slRev {K : PySem.W.Frag} {e e3 : Expr} {t3 : TO} {pos p2 : Pos} (he : PE X e te) (h3 : PO X (some e3) t3) (e0 : X.K = K := by rfl) : PE X (.Subscript e (.Slice none none (some e3) p2) pos) (slRev K te t3) := by
  subst e0
  exact pe_sliceK (pick := List.reverse) (by decide) pick_rev (fun r => vals_rev r) (fun xs => by rw [List.length_reverse]; exact Nat.le_refl _) he h3
theorem pe_slEven {K : PySem.W.Frag} {e e3 : Expr} {t3 : TO} {pos p2 : Pos} (he : PE X e te) (h3 : PO X (some e3) t3) (e0 : X.K = K := by rfl) : PE X (.Subscript e (.Slice none none (some e3) p2) pos) (slEven K te t3) := by
  subst e0
  exact pe_sliceK (pick := Mi.evens) (by decide) pick_even (fun r => vals_evens r) evens_len he h3
def SlkG (K : PySem.W.Frag) (k : Int) (pv : List V → List V) (x : V) (st : Option Int) (H : Hp) (Q : VK) : Prop := st = some k ∧ ∃ a xs, x = .ref a ∧ SqL K H a xs ∧ ∀ p, H p = none → Q (.ref p) (upd H p (.lst (pv xs)))
theorem w_slRev {t3 : TO} (h : te σ H fun x H1 => t3 σ H1 fun st H2 => SlkG K (-1) List.reverse x st H2 Q) : slRev K te t3 σ H Q := h
theorem w_slEven {t3 : TO} (h : te σ H fun x H1 => t3 σ H1 fun st H2 => SlkG K 2 Mi.evens x st H2 Q) : slEven K te t3 σ H Q := h
theorem pr_evens {R : V → α → Prop} : ∀ {vs : List V} {xs : List α}, Paired R vs xs → Paired R (Mi.evens vs) (Mi.evens xs)
  | _, _, .nil => .nil
  | _, _, .cons h .nil => .cons h .nil
  | _, _, .cons h (.cons _ t) => .cons h (pr_evens t)
theorem pr_reverse {R : V → α → Prop} {vs : List V} {xs : List α} (q : Paired R vs xs) : Paired R vs.reverse xs.reverse := by
  induction q with
  | nil => exact .nil
  | cons h t ih => rw [List.reverse_cons, List.reverse_cons]; exact pr_app ih (.cons h .nil)
theorem x_slRev {xs : List α} (r : (yLst τ).rep K H F v xs) (k : ∀ p H', H p = none → Chg [] H H' → (yLst τ).rep K H' [p] (.ref p) xs.reverse → Q (.ref p) H') : SlkG K (-1) List.reverse v (some (-1)) H Q := by
  obtain ⟨a, vs, rfl, s, q⟩ := lst_sq r
  exact ⟨rfl, a, vs, rfl, s, fun p np => k p _ np (Chg.lay np trivial) ⟨p, _, rfl, rfl, upd_same, pr_reverse (Paired.mapP q fun _ _ z => Ty.ex z (Chg.lay np trivial))⟩⟩
theorem x_slEven {xs : List α} (r : (yLst τ).rep K H F v xs) (k : ∀ p H', H p = none → Chg [] H H' → (yLst τ).rep K H' [p] (.ref p) (Mi.evens xs) → Q (.ref p) H') : SlkG K 2 Mi.evens v (some 2) H Q := by
  obtain ⟨a, vs, rfl, s, q⟩ := lst_sq r
  exact ⟨rfl, a, vs, rfl, s, fun p np => k p _ np (Chg.lay np trivial) ⟨p, _, rfl, rfl, upd_same, pr_evens (Paired.mapP q fun _ _ z => Ty.ex z (Chg.lay np trivial))⟩⟩
theorem opt_back {d : Option α} {z : α} (h : d = some z) (nn : v ≠ .non) (r : τ.rep K H F v z) : (yOpt τ).rep K H F v d := by subst h; exact ⟨nn, r⟩
/-! ### extend -/
theorem m_ext {xs ys zs : List α} (r : (yLst τ).rep K H F v xs) (q : (yLst τ).rep K H F2 u ys) (hm : Mi.ext xs ys = some zs) (k : ∀ H', Chg F H H' → (yLst τ).rep K H' F v zs → Q .non H') : rExtend v [u] H Q := by
  obtain ⟨a, vs, rfl, rfl, g, p⟩ := r
  obtain ⟨b, us, rfl, rfl, g2, p2⟩ := q
  unfold Mi.ext at hm
  split at hm
  · rename_i hc
    obtain rfl := Option.some.inj hm
    refine ⟨a, b, vs, us, rfl, rfl, g, g2, ?_, ?_⟩
    · rw [Paired.length p, Paired.length p2]; exact Nat.le_trans hc (by rw [sizeLine_eq]; decide)
    · have c : Chg [a] H (upd H a (.lst (vs ++ us))) := Chg.wr g (fun z => z)
      exact k _ c ⟨a, _, rfl, rfl, upd_same, pr_app (Paired.mapP p fun _ _ z => Ty.fz z c) (Paired.mapP p2 fun _ _ z => Ty.fz z c)⟩
  · cases hm
end
end G

namespace RT
open PySem PySem.Spec PyProof.Rows L2
section
variable {prog : Program} {w : World} {A : Around} {E : Value → Shared → Prop} {s : Shared}
theorem extend_rev {R : Result → Shared → Prop} {it l : Addr} {items : Array Value} (hh : A.handled = none) (hit : s.heap.IsRevIter it l ((items.size : Int) - 1)) (hl : s.heap.IsList l items) (hne : l ≠ it) (hn : items.size ≤ sizeLine)
    (S : Addr) (res : Value) (c₀ : Nat) (hSi : S ≠ it) (hSl : S ≠ l) (hS : s.heap.get? S = some { cls := .type "list", data := .seq #[] c₀ })
    (hR : ∀ (h' : Heap) (tk : Nat) (acc : Array Value) (c' : Nat), (∀ b o, b ≠ S → b ≠ it → s.heap.get? b = some o → h'.get? b = some o) → h'.get? S = some { cls := .type "list", dict := none, data := .seq acc c', slots := #[] } →
      ItemsOf (fun i v => items[items.size - 1 - i]? = some v) acc items.size → R (.ok (.ret res)) { s with heap := h', toks := tk }) :
    wpAny (model prog w) A.in1 (Builtin.List.listExtendWith (.ref S) (.ref it) res)
      (fun fin s' => match fin with | .done f => R (.ok f) s' | .again c' => c'.quiet = true ∧ codeAny (model prog w) A c' R s') (fun e s' => R (.error e) s') s := by
  have W := (Walks.listRev (prog := prog) (w := w) (A := A.in1) hh it l hne items).toS
  have hSf : S ∉ [it, l] := by simp only [List.mem_cons, List.not_mem_nil, or_false, not_or]; exact ⟨hSi, hSl⟩
  have hT : s.TypeIs (.ref it) "list_reverseiterator" := Heap.IsRevIter.typeIs (s := s) hit
  have h1 : Builtin.List.listSameRef (.ref S) (.ref it) = false := by simp [Builtin.List.listSameRef, hSi]
  unfold Builtin.List.listExtendWith
  refine wpAny_bind (wpAny_typeOf hT ?_)
  rw [if_neg (by rw [h1]; decide)]
  refine wpAny_bind (wpAny_pyIter_revIter (s := s) hit ?_)
  refine wpAny_bind (wpAny_holding ?_)
  unfold Builtin.List.listLengthHint
  refine wpAny_bind (wpAny_specialOf hT nolen_lri ?_)
  show wpAny _ A.in1 (specialOf (Value.ref it) (Str.ofString "__length_hint__") >>= _) _ _ _
  refine wpAny_bind (wpAny_specialOf hT hint_lri ?_)
  generalize hid : ("list_reverseiterator.__length_hint__" : String) = id0
  wp_delta
  rw [show splitId id0 = some ("list_reverseiterator", "__length_hint__") from by subst hid; decide +kernel]
  subst hid
  refine wpAny_bind (wpAny_isInstance (b := true) hT (by rw [isSubtype_type]; kernel_rfl) ?_)
  refine wpAny_pure ?_
  rw [if_neg (by decide)]
  have e0 : ((items.size : Nat) : Int) - 1 - ((0 : Nat) : Int) = (items.size : Int) - 1 := by omega
  refine wpAny_pure ⟨plainId_quiet F.plain_extend_loop _, codeAny_extend_loopS W hn S hSf res items.size 0 _ #[] c₀ rfl (Nat.zero_le _) ⟨Nat.zero_le _, by rw [e0]; exact hit, hl⟩ hS (ItemsOf.nil _) fun s' acc' c' hm hS' hacc => ?_⟩
  rw [Moved.eq_with hm]
  refine hR s'.heap s'.toks acc' c' (fun b o hb hb2 e => hm.heap b o (fun hmem => ?_) e) hS' hacc
  rcases List.mem_cons.mp hmem with e' | hmem
  · exact hb e'
  · exact hb2 (List.mem_singleton.mp hmem)
theorem list_init_rev {R : Result → Shared → Prop} {it l : Addr} {items : Array Value} (hh : A.handled = none) (hit : s.heap.IsRevIter it l ((items.size : Int) - 1)) (hl : s.heap.IsList l items) (hne : l ≠ it) (hn : items.size ≤ sizeLine)
    (S : Addr) (hSi : S ≠ it) (hSl : S ≠ l) (hS : s.heap.get? S = some { cls := .type "list", data := .seq #[] })
    (hR : ∀ (h' : Heap) (tk : Nat) (acc : Array Value) (c' : Nat), (∀ b o, b ≠ S → b ≠ it → s.heap.get? b = some o → h'.get? b = some o) → h'.get? S = some { cls := .type "list", dict := none, data := .seq acc c', slots := #[] } →
      ItemsOf (fun i v => items[items.size - 1 - i]? = some v) acc items.size → R (.ok (.ret .none)) { s with heap := h', toks := tk }) :
    wpAny (model prog w) A.in1 (Builtin.«list.__init__» ⟨[.ref S, .ref it], []⟩)
      (fun fin s' => match fin with | .done f => R (.ok f) s' | .again c' => c'.quiet = true ∧ codeAny (model prog w) A c' R s') (fun e s' => R (.error e) s') s := by
  show wpAny _ _ (do let old ← Builtin.List.listItems (.ref S); Builtin.List.listUpdate (.ref S) (fun _ => #[]); letGo old.toList.reverse; Builtin.List.listExtendWith (.ref S) (.ref it) .none) _ _ s
  refine wpAny_bind ?_
  unfold Builtin.List.listItems
  refine wpAny_bind (wpAny_seqItems hS rfl (wpAny_pure ?_))
  show wpAny _ _ (updateSeq S (fun _ => #[]) >>= fun _ => letGo (#[] : Array Value).toList.reverse >>= fun _ => Builtin.List.listExtendWith (.ref S) (.ref it) .none) _ _ s
  refine wpAny_bind (wpAny_updateSeq hS rfl ?_)
  have hS₂ := Heap.get?_update_self (Obj.mapSeq (fun _ => (#[] : Array Value))) hS rfl
  have oth : ∀ b o, b ≠ S → s.heap.get? b = some o → (s.heap.update S (Obj.mapSeq (fun _ => (#[] : Array Value)))).get? b = some o :=
    fun b o hb e => (Heap.get?_update_other _ _ (Ne.symm hb)).trans e
  refine wpAny_bind (wpAny_letGo ?_)
  have hit2 : (s.heap.update S (Obj.mapSeq (fun _ => (#[] : Array Value)))).IsRevIter it l ((items.size : Int) - 1) := hit.at fun o e => oth it o (Ne.symm hSi) e
  have hl2 : (s.heap.update S (Obj.mapSeq (fun _ => (#[] : Array Value)))).IsList l items := let ⟨o, ho, r⟩ := hl; ⟨o, oth l o (Ne.symm hSl) ho, r⟩
  refine extend_rev hh hit2 hl2 hne hn S .none _ hSi hSl hS₂ fun h' tk acc' c' hk hS' hacc => ?_
  exact hR h' tk acc' c' (fun b o hb hb2 e => hk b o hb hb2 (oth b o hb e)) hS' hacc
theorem call_list_rev {it l : Addr} {items : Array Value} {Q : Value → Shared → Prop} (hh : A.handled = none) (hit : s.heap.IsRevIter it l ((items.size : Int) - 1)) (hl : s.heap.IsList l items) (hne : l ≠ it) (hn : items.size ≤ sizeLine)
    (hQ : ∀ (h' : Heap) (tk : Nat) (acc : Array Value) (c' : Nat), (∀ b o, b ≠ it → s.heap.get? b = some o → h'.get? b = some o) → h'.get? s.heap.objs.size = some { cls := .type "list", dict := none, data := .seq acc c', slots := #[] } →
      ItemsOf (fun i v => items[items.size - 1 - i]? = some v) acc items.size → Q (.ref s.heap.objs.size) { s with heap := h', toks := tk }) :
    wpAny (model prog w) A (call (.type "list") [.ref it]) Q E s := by
  obtain ⟨oi, hoi, _⟩ := id hit
  obtain ⟨ol, hol, _⟩ := id hl
  refine callType_codes (Q₁ := fun obj s₁ => obj = .ref s.heap.objs.size ∧ s₁ = { s with heap := s.heap.push { cls := .type "list", data := .seq #[] } }) F.called_list (F.typeCall_list_1 _) F.entry_list_init
    (code_list_new _ ⟨rfl, rfl⟩) fun obj s₁ h₁ => ?_
  obtain ⟨rfl, rfl⟩ := h₁
  have hS : (s.heap.push { cls := .type "list", data := .seq #[] }).get? s.heap.objs.size = some { cls := .type "list", data := .seq #[] } := Heap.get?_push_size _ rfl
  refine ⟨⟨_, hS, rfl⟩, F.args_list_init_2 _ _, list_init_rev (A := A.in1) (s := { s with heap := s.heap.push { cls := .type "list", data := .seq #[] } }) hh (hit.at fun o e => Heap.get?_push_of_some _ e) (hl.push _) hne hn _ (Nat.ne_of_gt (Heap.lt_size hoi)) (Nat.ne_of_gt (Heap.lt_size hol)) hS fun h' tk acc' c' hk hS' hacc => ?_⟩
  exact ⟨rfl, hQ h' tk acc' c' (fun b o hb e => hk b o (Nat.ne_of_lt (Heap.lt_size e)) hb (Heap.get?_push_of_some _ e)) hS' hacc⟩
end
end RT
namespace L2
open PySem PySem.Spec PyProof.Rows RT
section
variable {X : Cx}
def tLstRev (K : PySem.W.Frag) (te : TE) : TE := fun σ H Q => te σ H fun v H1 => ∃ (a : Addr) (xs : List V), v = .ref a ∧ SqL K H1 a xs ∧ ∀ q, H1 q = none → Q (.ref q) (upd H1 q (.lst xs.reverse))
theorem pe_listRev {e : Expr} {te : TE} {p p2 pos pos2 : Pos} (hc : X.calm = true) (hg : Gl X "list") (hm : X.mg "list" = none) (hg2 : Gl X "reversed") (hm2 : X.mg "reversed" = none) (he : PE X e te)
    (hs : starEach [e] X.env = (false, eval e X.env) :: starEach [] X.env := by rfl)
    (hs2 : starEach [.Call (.Name "reversed" p2) [e] [] pos2] X.env = (false, eval (.Call (.Name "reversed" p2) [e] [] pos2) X.env) :: starEach [] X.env := by rfl) :
    PE X (.Call (.Name "list" p) [.Call (.Name "reversed" p2) [e] [] pos2] [] pos) (tLstRev X.K te) := by
  refine ⟨fun pins s σ H Q I h => ?_⟩
  refine Call_ (ld_blt I hg hm boot_list (PyProof.Rows.callWith_type1 (args_cons (Call_ (ld_blt I hg2 hm2 PyProof.Rows.boot_reversed (PyProof.Rows.callWith_type1 (args_cons (thn (he.run pins s σ H _ I h) fun u s1 ⟨v, H1, I1, r1, q1⟩ => args_nil ?_) hs) hs rfl))) hs2) hs2 rfl))
  obtain ⟨a, xs, ev, hq, q⟩ := q1
  subst ev
  obtain rfl : u = Value.ref a := r1
  obtain ⟨its, rv, p', hz⟩ := I1.list hq
  refine call_reversed_list p'.isList (args_nil ?_)
  have k0 : ∀ b o, s1.heap.get? b = some o → (s1.heap.push (revObj a ((its.toArray.size : Int) - 1))).get? b = some o := fun b o e => Heap.get?_push_of_some _ e
  have I2 : Inv X pins σ H1 { s1 with heap := s1.heap.push (revObj a ((its.toArray.size : Int) - 1)) } := I1.kept (t' := s1.toks) k0
  obtain ⟨f0, f1, f2, f3, f4, f5⟩ := I1.fpOk (H' := H1) (b := s1.heap.objs.size) (Nat.le_refl _) (I1.hok.fresh (Nat.le_refl _))
  have hl := p'.isList
  obtain ⟨ol, hol, _⟩ := id hl
  have hne : a ≠ s1.heap.objs.size := Nat.ne_of_lt (Heap.lt_size hol)
  have hn : its.toArray.size ≤ sizeLine := by rw [List.size_toArray, ← rv.length]; exact hz
  refine call_list_rev (s := { s1 with heap := s1.heap.push (revObj a ((its.toArray.size : Int) - 1)) }) (I1.ok.hd hc) ⟨_, Heap.get?_push_size _ rfl, rfl, rfl⟩ (hl.push _) hne hn fun h' tk acc c' hk hS' hi => ?_
  have hsz : (s1.heap.push (revObj a ((its.toArray.size : Int) - 1))).objs.size = s1.heap.objs.size + 1 := Heap.size_push ..
  rw [hsz] at hS' ⊢
  refine ⟨.ref (s1.heap.objs.size + 1), upd H1 (s1.heap.objs.size + 1) (.lst xs.reverse), I1.laid (t' := tk) (fun c o e => hk c o (Nat.ne_of_lt (Heap.lt_size e)) (k0 c o e)) (Nat.le_succ _) (show ObjOk X.prog X.w _ _ _ (.lst xs.reverse) from ⟨by rw [List.length_reverse]; exact hz, acc.toList, c', vals_rev rv hi, ?_⟩), rfl, q _ (I1.hok.fresh (Nat.le_succ _))⟩
  rw [Array.toArray_toList]
  exact hS'
end
end L2
namespace G
open PySem PySem.Spec PyProof.Rows L2
section
variable {X : Cx} {K : PySem.W.Frag} {σ σ' : L2.St} {H : Hp} {F : List Addr} {te : TE} {v : V} {Q : VK} {α : Type} {τ : Ty α}
theorem pe_listRevK {K : PySem.W.Frag} {e : Expr} {p p2 pos pos2 : Pos} (hc : X.calm = true) (hg : Gl X "list") (hm : X.mg "list" = none) (hg2 : Gl X "reversed") (hm2 : X.mg "reversed" = none) (he : PE X e te) (e0 : X.K = K := by rfl)
    (hs : starEach [e] X.env = (false, eval e X.env) :: starEach [] X.env := by rfl)
    (hs2 : starEach [.Call (.Name "reversed" p2) [e] [] pos2] X.env = (false, eval (.Call (.Name "reversed" p2) [e] [] pos2) X.env) :: starEach [] X.env := by rfl) :
    PE X (.Call (.Name "list" p) [.Call (.Name "reversed" p2) [e] [] pos2] [] pos) (tLstRev K te) := by subst e0; exact pe_listRev hc hg hm hg2 hm2 he hs hs2
def LrvG (K : PySem.W.Frag) (v : V) (H1 : Hp) (Q : VK) : Prop := ∃ (a : Addr) (xs : List V), v = .ref a ∧ SqL K H1 a xs ∧ ∀ q, H1 q = none → Q (.ref q) (upd H1 q (.lst xs.reverse))
theorem w_lrev (h : te σ H fun v H1 => LrvG K v H1 Q) : tLstRev K te σ H Q := h
theorem x_lrev {xs : List α} (r : (yLst τ).rep K H F v xs) (k : ∀ p H', H p = none → Chg [] H H' → (yLst τ).rep K H' [p] (.ref p) xs.reverse → Q (.ref p) H') : LrvG K v H Q := by
  obtain ⟨a, vs, rfl, s, q⟩ := lst_sq r
  exact ⟨a, vs, rfl, s, fun p np => k p _ np (Chg.lay np trivial) ⟨p, _, rfl, rfl, upd_same, pr_reverse (Paired.mapP q fun _ _ z => Ty.ex z (Chg.lay np trivial))⟩⟩
/-! ### a list of things that stand already -/
theorem e_appG1 {D : Addr} {u : V} {Fu : List Addr} {N : Hp → Prop} {xs ys : List α} {d : α} (r : (yLsg τ).rep K H F (.ref D) xs) (ru : τ.rep K H Fu u d) (np : D ∉ Fu) (hm : Mi.app xs d = some ys)
    (k : ∀ H' F', Chg [D] H H' → (yLsg τ).rep K H' F' (.ref D) ys → Sub F' (F ++ Fu) → N H') : AppG D N u H := by
  obtain ⟨p, vs, G, e, rfl, na, g, dm, q⟩ := r
  obtain rfl := V.ref.inj e
  unfold Mi.app at hm
  split at hm
  · rename_i hz
    cases hm
    have c : Chg [D] H (upd H D (.lst (vs ++ [u]))) := Chg.wr g (fun z => z)
    have kp : ∀ {γ : Type} {ρ : Ty γ} {Fi : List Addr} {w : V} {e : γ}, ρ.rep K H Fi w e → D ∉ Fi → ρ.rep K (upd H D (.lst (vs ++ [u]))) Fi w e := fun rr hn => Ty.chg rr c fun b hb z => by
      rw [List.mem_singleton] at z; subst z; exact hn hb
    refine ⟨vs, g, Nat.lt_of_lt_of_le (by rw [pr_len q]; exact hz) line_big, k _ (D :: (G ++ Fu)) c ⟨D, _, G ++ Fu, rfl, rfl, ?_, upd_same, ?_, ?_⟩ ?_⟩
    · intro hp
      exact (List.mem_append.mp hp).elim na np
    · intro b hb
      have hbp : b ≠ D := fun e => by subst e; exact (List.mem_append.mp hb).elim na np
      obtain ⟨o, ho, hf⟩ := dm_app dm (Ty.dm ru) b hb
      exact ⟨o, by rw [upd_ne hbp]; exact ho, hf⟩
    · refine pr_app (Paired.mapP q fun w e z => ?_) (.cons ⟨Fu, kp ru np, fun b hb => List.mem_append_right _ hb⟩ .nil)
      obtain ⟨Fi, rr, sb⟩ := z
      exact ⟨Fi, kp rr fun hp => na (sb D hp), fun b hb => List.mem_append_left _ (sb b hb)⟩
    · intro b hb
      rcases List.mem_cons.mp hb with rfl | hb
      · exact List.mem_append_left _ (List.mem_cons_self ..)
      · rcases List.mem_append.mp hb with hb | hb
        · exact List.mem_append_left _ (List.mem_cons_of_mem _ hb)
        · exact List.mem_append_right _ hb
  · cases hm
theorem old_nin {D : Addr} {Fx Fi : List Addr} (d : Dj Fx [D]) (su : Sub Fi Fx) : D ∉ Fi := fun h => d D (su D h) (List.mem_singleton.mpr rfl)
theorem old_grow {D : Addr} {Fx Fi Fa F' : List Addr} (s0 : Sub Fa (D :: Fx)) (su : Sub Fi Fx) (s : Sub F' (Fa ++ Fi)) : Sub F' (D :: Fx) := fun a h => by
  rcases List.mem_append.mp (s a h) with z | z
  · exact s0 a z
  · exact List.mem_cons_of_mem _ (su a z)
theorem old_one {D : Addr} {Fx : List Addr} : Sub [D] (D :: Fx) := fun a h => by
  rw [List.mem_singleton] at h; subst h; exact List.mem_cons_self ..
theorem old_dj {D : Addr} {Fo Fx Fa : List Addr} (d1 : Dj Fo [D]) (d2 : Dj Fo Fx) (s : Sub Fa (D :: Fx)) : Dj Fo Fa := fun a h z => by
  rcases List.mem_cons.mp (s a z) with e | e
  · exact d1 a h (by rw [e]; exact List.mem_singleton.mpr rfl)
  · exact d2 a h e
end
end G

namespace L2
open PySem PySem.Spec PyProof.Rows
/-- a text times an int -/
def rRepS : R2 := fun x y H Q => ∃ i k, x = .str i ∧ y = .int k ∧ -(2 ^ 60) ≤ k ∧ k < 2 ^ 60 ∧ i.length * k.toNat ≤ 1000000 ∧ Q (.str ⟨((List.replicate k.toNat i.cps.toList).flatten).toArray⟩) H
theorem foldl_app : ∀ (l : List (Array Nat)) (a : Array Nat), (l.foldl (· ++ ·) a).toList = a.toList ++ (l.map Array.toList).flatten
  | [], a => by simp
  | x :: l, a => by rw [List.foldl_cons, foldl_app l (a ++ x), Array.toList_append, List.map_cons, List.flatten_cons, List.append_assoc]
theorem op_repS {X : Cx} : OpR X (binaryOp .Mult) rRepS := by
  intro pins s σ H x y v u Q I rx ry h
  obtain ⟨i, k, rfl, rfl, h1, h2, hz, q⟩ := h
  obtain ⟨t, rfl⟩ := rx
  obtain ⟨t2, rfl⟩ := ry
  refine PySem.P.mul_str (by
    have e1 : ¬ k < -(2 ^ 63 : Int) := by omega
    have e2 : ¬ k ≥ 2 ^ 63 := by omega
    rw [decide_eq_false e1, decide_eq_false e2]; rfl) (fun hk hb => ?_) (fun hk hb => ?_) ?_
  · have hk1 : 1 ≤ k := by omega
    have e : ((i.length * k.toNat : Nat) : Int) = (i.length : Int) * k := by
      rw [Int.natCast_mul, Int.toNat_of_nonneg (by omega)]
    have hm : (i.length : Int) * k ≤ 1000000 := by rw [← e]; exact Int.ofNat_le.mpr hz
    have hle : (i.length : Int) ≤ (2 ^ 63 - 1) / k := (Int.le_ediv_iff_mul_le (by omega)).mpr (Int.le_trans hm (by decide))
    omega
  · unfold Builtin.Str.tooLong
    exact decide_eq_false (by have := sizeLine_eq; omega)
  · by_cases c1 : k < 1
    · rw [if_pos c1]
      have e0 : k.toNat = 0 := by omega
      rw [e0] at q
      exact ⟨by decide, .str _, H, I.tok _, ⟨_, rfl⟩, q⟩
    · rw [if_neg c1]
      by_cases c2 : (k == 1 || i.length == 0) = true
      · rw [if_pos c2]
        have e : (⟨((List.replicate k.toNat i.cps.toList).flatten).toArray⟩ : Str) = i := by
          rcases Bool.or_eq_true _ _ ▸ c2 with z | z
          · have hk : k = 1 := by simpa using z
            subst hk
            show (⟨((List.replicate 1 i.cps.toList).flatten).toArray⟩ : Str) = i
            simp
          · have hl : i.cps.toList = [] := by
              have : i.length = 0 := by simpa using z
              have h2 : i.cps.size = 0 := this
              exact List.length_eq_zero_iff.mp (by rw [Array.length_toList]; exact h2)
            rw [hl]
            have hi : i = ⟨#[]⟩ := by
              cases i with
              | mk c => congr 1; exact Array.toList_inj.mp (by rw [hl])
            rw [hi]; simp
        rw [e] at q
        exact ⟨.str i, H, I, ⟨t, rfl⟩, q⟩
      · rw [if_neg c2]
        have e : (⟨(List.replicate k.toNat i.cps).foldl (· ++ ·) #[]⟩ : Str) = ⟨((List.replicate k.toNat i.cps.toList).flatten).toArray⟩ := by
          congr 1
          apply Array.toList_inj.mp
          rw [foldl_app]
          simp
        rw [e]
        refine ⟨?_, .str _, H, I.tok _, ⟨_, rfl⟩, q⟩
        show (((List.replicate k.toNat i.cps.toList).flatten).toArray).size ≤ sizeLine
        rw [List.size_toArray, List.length_flatten, List.map_replicate, List.sum_replicate_nat, Array.length_toList]
        have hm : k.toNat * i.cps.size ≤ 1000000 := by rw [Nat.mul_comm]; exact hz
        exact Nat.le_trans hm (by rw [sizeLine_eq]; decide)
end L2
namespace G
open PySem PySem.Spec PyProof.Rows L2
section
variable {X : Cx} {K : PySem.W.Frag} {σ σ' : L2.St} {H : Hp} {F : List Addr} {te ta tb : TE} {v : V} {Q : VK} {α : Type} {τ : Ty α} {a b c : List Nat} {i : Int} {D : Ends} {t2 : TS}
theorem w_repS (hm : Mi.sRep a i = some c) (k : Q (.str (toS c)) H) : rRepS (.str (toS a)) (.int i) H Q := by
  unfold Mi.sRep at hm
  split at hm
  · rename_i hc
    obtain rfl := Option.some.inj hm
    refine ⟨toS a, i, rfl, rfl, hc.1, hc.2.1, by rw [toS_len]; exact hc.2.2, ?_⟩
    rw [toS_tl]; exact k
  · cases hm
theorem val_repS (hm : Mi.sRep a i = some c) (ha : Val ta σ H (.str (toS a))) (hb : Val tb σ H (.int i)) : Val (tOp rRepS ta tb) σ H (.str (toS c)) := val_op ha hb fun Q q => w_repS hm q
/-! ### texts in a list -/
theorem strs_sqL {xs : List (List Nat)} (r : (yLst yStr).rep K H F v xs) : ∃ p, v = .ref p ∧ SqL K H p (xs.map fun x => V.str (toS x)) := by
  obtain ⟨p, vs, rfl, s, q⟩ := lst_sq r
  have e : vs = xs.map fun x => V.str (toS x) := by
    clear s r
    induction q with
    | nil => rfl
    | cons h t ih => obtain ⟨_, rfl⟩ := h; rw [ih]; rfl
  subst e
  exact ⟨p, rfl, s⟩
theorem eq_str (a b : List Nat) : eqV (.str (toS a)) (.str (toS b)) = (a == b) := by
  show (toS a == toS b) = (a == b)
  by_cases h : a = b
  · subst h; simp
  · rw [beq_eq_false_iff_ne.mpr h, beq_eq_false_iff_ne.mpr fun z => h (toS_inj z)]
theorem in_strs (x : List Nat) : ∀ xs : List (List Nat), inV (.str (toS x)) (xs.map fun x => V.str (toS x)) = xs.contains x
  | [] => rfl
  | y :: ys => by
    have ih := in_strs x ys
    unfold inV at ih ⊢
    rw [List.map_cons, List.any_cons, ih, eq_str, List.contains_cons]
    congr 1
    by_cases h : y = x
    · subst h; rfl
    · rw [beq_eq_false_iff_ne.mpr h, beq_eq_false_iff_ne.mpr (Ne.symm h)]
theorem flat_strs (xs : List (List Nat)) : (xs.map fun x => V.str (toS x)).all flatV = true := by
  rw [List.all_eq_true]
  intro y hy
  obtain ⟨z, _, rfl⟩ := List.mem_map.mp hy
  rfl
theorem w_inLS {xs : List (List Nat)} (r : (yLst yStr).rep K H F v xs) (k : Q (.bl (xs.contains a)) H) : rIn K false (.str (toS a)) v H Q := by
  obtain ⟨p, rfl, s⟩ := strs_sqL r
  exact ⟨p, _, rfl, .inl s, rfl, flat_strs xs, by rw [if_neg Bool.false_ne_true, in_strs]; exact k⟩
theorem val_inLS {xs : List (List Nat)} (r : (yLst yStr).rep K H F v xs) (ha : Val ta σ H (.str (toS a))) (hb : Val tb σ H v) : Val (tOp (rIn K false) ta tb) σ H (.bl (xs.contains a)) := val_op ha hb fun Q q => w_inLS r q
theorem mt_indexK {K : PySem.W.Frag} (e : X.K = K := by rfl) : MtR X "list.index" (rIndex K) := by subst e; exact mt_index
theorem m_indexS {xs : List (List Nat)} (r : (yLst yStr).rep K H F v xs) (hm : Mi.lIdx xs a = some i) (k : Q (.int i) H) : rIndex K v [.str (toS a)] H Q := by
  obtain ⟨p, rfl, s⟩ := strs_sqL r
  unfold Mi.lIdx at hm
  split at hm
  · rename_i hc
    obtain rfl := Option.some.inj hm
    have hmem := List.contains_iff_mem.mp hc
    have hj : xs.idxOf a < xs.length := List.idxOf_lt_length_iff.mpr hmem
    refine ⟨p, _, .str (toS a), xs.idxOf a, .str (toS a), rfl, rfl, s, rfl, flat_strs xs, ?_, by rw [eq_str]; simp, fun m z' hmj hz => ?_, k⟩
    · rw [List.getElem?_map, List.getElem?_eq_getElem hj, List.getElem_idxOf hj]; rfl
    · rw [List.getElem?_map, List.getElem?_eq_getElem (by omega)] at hz
      obtain rfl := Option.some.inj hz
      rw [eq_str]
      have := List.not_of_lt_findIdx (p := (· == a)) (xs := xs) (i := m) (by exact hmj)
      simpa using this
  · cases hm
/-! ### while -/
theorem q_while {tc : TT} {tb : TS} (h : tWhile tc tb { D with nx := t2 D } σ H) : tSeq (tWhile tc tb) t2 D σ H := h
theorem l_while {tc : TT} {tb : TS} {nx : L2.St → Hp → Prop} (Pv : Nat → L2.St → Hp → Prop) (m : Nat) (h0 : Pv m σ H)
    (hs : ∀ m σ' H', Pv m σ' H' → tc σ' H' fun b H1 => if b = true then ∃ N : L2.St → Hp → Prop, (∀ σ2 H2, N σ2 H2 → ∃ m', m' < m ∧ Pv m' σ2 H2) ∧ tb { D with nx := N, ct := N, bk := nx } σ' H1 else nx σ' H1) : tWhile tc tb { D with nx := nx } σ H := ⟨Pv, ⟨m, h0⟩, hs⟩
theorem q_par {k l : Nat} {ta : TA} (h : ta σ H fun vs H1 => ∃ u w, vs = [u, w] ∧ t2 D ((σ.set k (some u)).set l (some w)) H1) : tSeq (tPar k l ta) t2 D σ H := h
end
end G

/-! ### __iter__ that returns iter(self.f), f a tuple -/
namespace L2
open PySem PySem.Spec PyProof.Rows ItX
abbrev tuIt (t : Addr) (i : Nat) : Obj := { cls := .type "tuple_iterator", data := .fields #[.ref t, .int i 0] }
def ItTO (t it : Addr) : HO := .ext fun h => h.get? it = some (tuIt t 0)
theorem itTO_ok {P : Program} {w : World} {H : Hp} {h : Heap} {t it : Addr} (e : h.get? it = some (tuIt t 0)) : ObjOk P w H h it (ItTO t it) := ⟨e, ⟨_, e⟩, fun h1 h2 q k => k _ q⟩
theorem call_iterTu {prog : Program} {w : World} {A : Around} {E : Value → Shared → Prop} {s : Shared} {l : Addr} {items : Array Value} {Q : Value → Shared → Prop} (hl : s.heap.IsTuple l items) (h : Q (.ref s.heap.objs.size) { s with heap := s.heap.push (tuIt l 0) }) : wpAny (model prog w) A (call (.builtin "iter") [.ref l]) Q E s := by
  refine Calls.call_function_entry (by decide +kernel) (by decide +kernel) PySem.W.kdk_entry_iter (PySem.W.kdk_args_iter _) ?_
  unfold Builtin.«iter»
  refine wpAny_bind (m := someArgs "iter" 1 2 _) (wpAny_of_eq (a := [Value.ref l]) (by first | rfl | kernel_rfl!) ?_)
  show wpAny _ _ (pyIter (.ref l) >>= _) _ _ _
  refine wpAny_bind (wpAny_pyIter_tuple hl ?_)
  exact wpAny_pure ⟨_, rfl, h⟩
def rIterT (K : PySem.W.Frag) (n : Nat) : List V → Hp → VK → Prop := fun xs H Q => ∃ (t : Addr) (zs : List V), xs = [.ref t] ∧ SqT K H t zs ∧ ∀ it, H it = none → n ≤ it → Q (.ref it) (upd H it (ItTO t it))
theorem call_iterT {X : Cx} {K : PySem.W.Frag} {n : Nat} (e : X.K = K := by rfl) (hn : X.s_0.heap.objs.size = n := by rfl) : CallR X (.builtin "iter") (rIterT K n) := by
  subst e hn
  intro pins s σ H xs us Q I r h
  obtain ⟨l, zs, rfl, hq, q⟩ := h
  obtain ⟨u, rfl, ru⟩ := vals1 r
  cases ru
  obtain ⟨its, rv, pl, hz⟩ := I.tuple hq
  refine call_iterTu (show s.heap.IsTuple l its.toArray from pl) ?_
  exact ⟨.ref s.heap.objs.size, _, I.laid (t' := s.toks) (fun b u e => Heap.get?_push_of_some _ e) (Nat.le_refl _) (itTO_ok (Heap.get?_push_size _ rfl)), rfl, q _ (I.hok.fresh (Nat.le_refl _)) I.sz⟩
/-- a def whose promise knows how many cells there are -/
structure FnOkS (P : Program) (w : World) (K : PySem.W.Frag) (mg : Str → Option Value) (base : Heap) (CX : CXT) (k : Nat) (f : Addr) (fd : FuncData) (ps : List Str) (sp : Nat → Sp) : Prop where
  len : ∀ n vs H Q E, sp n vs H Q E → vs.length = ps.length
  run : ∀ (A : Around) (outer : List Env) (s : Shared) (H : Hp) (args : Args) (us : List Value) (vs : List V) (Q : VK) (E : XK), Room k A → Env0 P w K mg base A outer s H → BindsTo s fd args (ps.zip us) → Vals vs us → sp s.heap.objs.size vs H Q E →
    codeAny (model P w) A (.call (.ref f) args) (CR CX outer P w H s Q E) s
theorem fn_ofS {CX : CXT} {P : Program} {w : World} {K : PySem.W.Frag} {mg : Str → Option Value} {base : Heap} {k : Nat} {f : Addr} {name qual : Str} {params : Arguments} {body : List Stmt} {scope : Scope} {dV kV doc pm cdv ct oc : Value} {an od : Option Addr}
    {osl : Array (Option Value)} {N ps : List Str} {sp : Nat → Sp} (lk : K.lookup f = some ⟨oc, od, .func (PySem.W.fnOf name qual params body scope dV kV doc pm an cdv ct), osl⟩) (hcd : PySem.W.codeIn K cdv qual = true) (S : FnScope N ps scope)
    (len : ∀ n vs H Q E, sp n vs H Q E → vs.length = ps.length)
    (hbody : ∀ (A : Around) (outer : List Env) (s : Shared) (H : Hp) (vs : List V) (Q : VK) (E : XK), Room k (A.deeper (envOfC qual scope s.heap.objs.size f cdv)) → sp s.heap.objs.size vs H Q E →
      ∃ t, PSs (cxOf CX P w K mg base N qual scope f cdv A outer s H E) body t ∧ t { nx := fun _ H' => Q .non H', rt := Q } (start N vs) H) :
    FnOkS P w K mg base CX (k + 1) f (PySem.W.fnOf name qual params body scope dV kV doc pm an cdv ct) ps sp := by
  refine ⟨len, fun A outer s H args us vs Q E hr e0 hb r hsp => ?_⟩
  have hl := len _ _ _ _ _ hsp
  have KX : K.In s.heap := e0.mod.kin.keeps fun b o e => (e0.bs b o e).1
  have lim : s.heap.NoLimit := e0.mod.nolimit.keeps fun b o e => (e0.bs b o e).1
  have hkind : ∀ y ∈ ps.zip us, scope.names.lookup y.1 = some .local ∨ (scope.names.lookup y.1 = some .cell ∧ ((cellsFrom (s.heap.objs.size + 1) scope.names []).lookup y.1).isSome = true) := fun ⟨n, v⟩ hy => by
    rcases S.par n (List.of_mem_zip hy).1 with q | q
    · exact .inl q
    · exact .inr ⟨q, PySem.W.cellsFrom_some _ _ _ (.inl q)⟩
  refine codeAny_call_function hr.depth (KX _ _ lk) rfl S.co S.gen rfl (PySem.W.codeRec_of KX hcd) (hb _ _ _ _ ?_)
  refine wpAny_newFunctionEnv_cells S.kind hkind fun env he s1 x => ?_
  subst he
  refine ⟨lim.keeps x.toInCall.keep, codeAny_func ?_⟩
  obtain ⟨t, ht, hq⟩ := hbody A outer s H vs Q E (hr.deeper _) hsp
  have I : Inv (cxOf CX P w K mg base N qual scope f cdv A outer s H E) [] (start N vs) H s1 := inv_start S hr.hd e0 hl r x
  refine wpAny_mono (ht.run [] s1 (start N vs) H _ I hq) (fun fl s' hs => ?_) fun e s' hs => hs
  have fin : ∀ {σ' : St} {H' : Hp} {v : V} {u : Value}, Inv (cxOf CX P w K mg base N qual scope f cdv A outer s H E) [] σ' H' s' → RelV v u → Q v H' → CE outer P w H s Q u s' :=
    fun {σ' H' v u} J rv q => ⟨v, H', J.os, J.bare, J.base, J.hok, rv, q⟩
  cases fl with
  | ret u =>
    obtain ⟨v, σ', H', J, rv, q⟩ := hs
    exact fin J rv q
  | next =>
    obtain ⟨σ', H', J, q⟩ := hs
    exact fin (v := V.non) (u := Value.none) J rfl q
  | brk =>
    obtain ⟨_, _, _, q⟩ := hs
    exact False.elim q
  | cont =>
    obtain ⟨_, _, _, q⟩ := hs
    exact False.elim q
/-- what __iter__ promises -/
def spIter (K : PySem.W.Frag) (C : Addr) (fld : Str) (n : Nat) : Sp := fun vs H Q _ => ∃ (a dx : Addr) (fs : List (Str × V)) (t : Addr) (zs : List V), vs = [.ref a] ∧ H a = some (.ins C dx fs) ∧ fs.lookup fld = some (.ref t) ∧ SqT K H t zs ∧
  ∀ it, H it = none → n ≤ it → Q (.ref it) (upd H it (ItTO t it))
def iOwn (K : PySem.W.Frag) (C : Addr) (fld : Str) (te : TE) : TI := fun σ H R => te σ H fun v H1 => ∃ (a dx : Addr) (fs : List (Str × V)) (t : Addr) (zs : List V), v = .ref a ∧ H1 a = some (.ins C dx fs) ∧ fs.lookup fld = some (.ref t) ∧ SqT K H1 t zs ∧ R (Itt K t) H1
section
variable {X : Cx} {tg e : Expr} {te : TE} {C fi : Addr} {fd : FuncData} {n : Nat} {fld : Str}
theorem own_pyIter {pins : List (Addr × Obj)} {s : Shared} {σ : St} {H : Hp} {a dx t : Addr} {fs : List (Str × V)} {zs : List V} {A1 : Around} {Q : Value → Shared → Prop} (I : Inv X pins σ H s) (sb : Sub X n A1) (M : Meth X.K C "__iter__" fi) (F : FnOkS X.prog X.w X.K X.mg X.base CX0 n fi fd ["self"] (spIter X.K C fld))
    (b : ∀ (s : Shared) (us : List Value), us.length = 1 → BindsTo s fd ⟨us, []⟩ ((["self"] : List Str).zip us)) (ha : H a = some (.ins C dx fs)) (hf : fs.lookup fld = some (.ref t)) (hq : SqT X.K H t zs)
    (k : ∀ it s', s.heap.objs.size ≤ it → H it = none → s'.heap.IsTupleIter it t 0 → Inv X pins σ H s' → Q (.ref it) s') : wpAny (model X.prog X.w) A1 (pyIter (.ref a)) Q X.xe s := by
  obtain ⟨mA, J, _⟩ := ins_get I.hok ha
  obtain ⟨od, J, _⟩ := J.look
  obtain ⟨m0, hF⟩ := I.fr
  refine PySem.W.owit_iter hF I.ok.mod.kin J M.at_ M.fn ?_
  have e0 : Env0 X.prog X.w X.K X.mg X.base A1 X.stack s H := by
    have e := I.env0
    exact ⟨by rw [sb.fr]; exact e.frames, e.mod, e.bs, e.bsz, e.funs, e.frf, e.hok, e.bare⟩
  have r2 : Vals [V.ref a] [Value.ref a] := .cons rfl .nil
  have hsp : spIter X.K C fld s.heap.objs.size [.ref a] H (fun v H' => ∃ it, s.heap.objs.size ≤ it ∧ v = .ref it ∧ H it = none ∧ H' = upd H it (ItTO t it)) E0 := ⟨a, dx, fs, t, zs, rfl, ha, hf, hq, fun it hn hle => ⟨it, hle, rfl, hn, rfl⟩⟩
  refine wpAny_call (codeAny_mono (F.run A1 X.stack s H ⟨[.ref a], []⟩ [.ref a] [.ref a] _ E0 sb.room e0 (b s [.ref a] rfl) r2 hsp) fun r s' hq' => ?_)
  cases r with
  | error e => exact False.elim hq'
  | ok fl =>
    cases fl with
    | next => exact False.elim hq'
    | brk => exact False.elim hq'
    | cont => exact False.elim hq'
    | ret u =>
      obtain ⟨v, H', I', rv, it, hle, ev, hn, eH⟩ := I.after hq'
      subst ev
      subst eH
      cases rv
      have hi : (upd H it (ItTO t it)) it = some (ItTO t it) := upd_same
      have eo : s'.heap.get? it = some (tuIt t 0) := (I'.hok it _ hi).1
      have st : s'.heap.IsTupleIter it t 0 := ⟨_, eo, rfl, rfl⟩
      have hi' := hi
      unfold ItTO at hi'
      have I2 := inv_drop I' hi'
      have eD : dropH (upd H it (ItTO t it)) it = H := dropH_upd hn
      rw [show (upd H it (ItTO t it)) = upd H it (ItTO t it) from rfl] at I2
      rw [eD] at I2
      unfold PySem.W.OwitIt
      exact wpAny_specialOf (s := s') st.typeIs PySem.F.slot_tuple_iterator_next.lookup (k it s' hle hn st I2)
theorem pi_own (he : PE X e te) (M : Meth X.K C "__iter__" fi) (F : FnOkS X.prog X.w X.K X.mg X.base CX0 n fi fd ["self"] (spIter X.K C fld)) (b : ∀ (s : Shared) (us : List Value), us.length = 1 → BindsTo s fd ⟨us, []⟩ ((["self"] : List Str).zip us)) (hr : Room n X.A) :
    PI X tg e (iOwn X.K C fld te) := by
  refine ⟨fun pins s σ H R I h => ?_⟩
  refine thn (he.run pins s σ H _ I h) fun v s1 ⟨x, H1, I1, r1, a, dx, fs, t, zs, ex, ha, hf, hq, q⟩ => ?_
  subst ex
  cases r1
  refine own_pyIter I1 ⟨hr, rfl⟩ M F b ha hf hq fun it s' hle hn st I2 => ?_
  refine ⟨it, [it], _, _, H1, rfl, I2, turn_tuple t it, st, fun b hb => ?_, q⟩
  have e : b = it := by simpa using hb
  subst e
  exact I1.fpOk hle hn
end
end L2
namespace G
open PySem PySem.Spec PyProof.Rows L2
/-- a class whose __iter__ returns iter(self.fld) -/
structure CalIt (P : Program) (w : World) (K : PySem.W.Frag) (mg : Str → Option Value) (C : Addr) (fld : Str) (k : Nat) : Prop where
  ex : ∃ f fd, Meth K C "__iter__" f ∧ (∀ (s : Shared) (us : List Value), us.length = 1 → BindsTo s fd ⟨us, []⟩ ((["self"] : List Str).zip us)) ∧ ∀ base : Heap, FnOkS P w K mg base CX0 k f fd ["self"] (spIter K C fld)
theorem okS {P : Program} {w : World} {K : PySem.W.Frag} {mg : Str → Option Value} {base : Heap} {x qual : Str} {st : Stmt} {f : Addr} {fd : FuncData} {N ps : List Str} {k : Nat} {sp : Nat → Sp} (F : Fun K x qual st f fd) (S : FnScope N ps (defScope st)) (len : ∀ n vs H Q E, sp n vs H Q E → vs.length = ps.length)
    (hbody : ∀ (cdv : Value) (A : Around) (outer : List Env) (s : Shared) (H : Hp) (vs : List V) (Q : VK) (E : XK), Room k (A.deeper (envOfC qual (defScope st) s.heap.objs.size f cdv)) → sp s.heap.objs.size vs H Q E →
      ∃ t, PSs (cxOf CX0 P w K mg base N qual (defScope st) f cdv A outer s H E) (defBody st) t ∧ t { nx := fun _ H' => Q .non H', rt := Q } (start N vs) H) : FnOkS P w K mg base CX0 (k + 1) f fd ps sp := by
  obtain ⟨oc, od, kV, doc, pm, an, cdv, ct, osl, rfl, lk, hcd⟩ := F.ex
  exact fn_ofS lk hcd S len fun A outer s H vs Q E hr hsp => hbody cdv A outer s H vs Q E hr hsp
section
variable {X : Cx} {K : PySem.W.Frag} {σ σ' : L2.St} {H : Hp} {F : List Addr} {te : TE} {v : V} {α β : Type} {τ : Ty α} {C : Addr} {ns : List Str} {fld : Str}
theorem pi_ownK {tg e : Expr} {j k : Nat} (he : PE X e te) (T : CalIt X.prog X.w X.K X.mg C fld j) (hr : Room k X.A) (hj : j ≤ k := by decide) (e0 : X.K = K := by rfl) : PI X tg e (iOwn K C fld te) := by
  subst e0
  obtain ⟨f, fd, M, b, F⟩ := T.ex
  exact pi_own he M (F X.base) b (hr.mono hj)
theorem w_iOwn {ts : Tys β} {n : Nat} {pr : β → List α} {d : β} (A : At ts n (yTupL τ) pr) (nd : ns.Nodup) (hn : ns[n]? = some fld) (r : (yObj C ns ts).rep K H F v d) :
    ∃ u, (yTupL τ).rep K H [] u (pr d) ∧ ∀ {σ : L2.St} {te : TE} {R : It → Hp → Prop}, Val te σ H v → ((∃ a, u = .ref a ∧ (∃ xs, SqT K H a xs) ∧ R (Itt K a) H) → iOwn K C fld te σ H R) := by
  obtain ⟨_, a, dx, vs, rfl, g, _, rs⟩ := r
  obtain ⟨u, F1, e, ru, sub⟩ := A rs
  have e1 : F1 = [] := by
    cases F1 with
    | nil => rfl
    | cons z zs => exact nomatch sub z (List.mem_cons_self ..)
  subst e1
  refine ⟨u, ru, fun {σ te R} hv h => hv _ ?_⟩
  obtain ⟨t, rfl, ⟨xs, hs⟩, hR⟩ := h
  exact ⟨a, dx, _, t, xs, rfl, g, lookup_zip nd hn e, hs, hR⟩
/-! ### isinstance of an own class -/
structure IsiO (K : PySem.W.Frag) (C : Addr) : Prop where
  ha : PySem.W.findIn K (.ref C) "__class__" = some (some (.builtin "object.__class__"))
  hn : PySem.W.specialIn K (.builtin "object.__class__") "__get__" = some (some (.builtin "getset_descriptor.__get__"))
  htk : PySem.W.takesIn K (.builtin "object.__class__") = some true
  hm : PySem.W.mroIn K C (.type "object") = some true
  one : PySem.W.kitOne K (.ref C) (.ref C) = some true
def isiAt (K : PySem.W.Frag) (C : Addr) : Bool :=
  decide (PySem.W.findIn K (.ref C) "__class__" = some (some (.builtin "object.__class__"))) && (decide (PySem.W.specialIn K (.builtin "object.__class__") "__get__" = some (some (.builtin "getset_descriptor.__get__"))) &&
    (decide (PySem.W.takesIn K (.builtin "object.__class__") = some true) && (decide (PySem.W.mroIn K C (.type "object") = some true) && decide (PySem.W.kitOne K (.ref C) (.ref C) = some true))))
theorem isi_of {C : Addr} (h : isiAt K C = true) : IsiO K C := by
  obtain ⟨h1, h⟩ := He.ba h
  obtain ⟨h2, h⟩ := He.ba h
  obtain ⟨h3, h⟩ := He.ba h
  obtain ⟨h4, h5⟩ := He.ba h
  exact ⟨of_decide_eq_true h1, of_decide_eq_true h2, of_decide_eq_true h3, of_decide_eq_true h4, of_decide_eq_true h5⟩
theorem val_isiC {ta : TE} {ts : Tys β} {d : β} (T : Cls K C) (O : IsiO K C) (r : (yObj C ns ts).rep K H F v d) (ha : Val ta σ H v) : Val (tCB (rIsi K) (tCons ta (tCons (tC (.ref C)) tNil))) σ H (.bl true) := fun Q q => by
  obtain ⟨_, a, dx, vs, rfl, g, _, rs⟩ := r
  exact ha _ ⟨.ref a, .ref C, .ref C, .ref C, true, rfl, .own C, .base (.ins g T O.ha O.hn O.htk O.hm), O.one, q⟩
end
end G

/-! ### x in o, o of an own class with __contains__ -/
namespace L2
open PySem PySem.Spec PyProof.Rows ItX
def rInO (C : Addr) (sp : Sp) : R2 := fun x y H Q => ∃ (a dx : Addr) (fs : List (Str × V)), y = .ref a ∧ H a = some (.ins C dx fs) ∧ sp [y, x] H (fun v H' => ∃ b, v = .bl b ∧ Q (.bl b) H') E0
section
variable {X : Cx} {C f : Addr} {fd : FuncData} {k : Nat} {ps : List Str} {sp : Sp}
theorem op_inO (M : Meth X.K C "__contains__" f) (F : FnOk X.prog X.w X.K X.mg X.base CX0 k f fd ps sp) (hps : ps.length = 2) (bi : ∀ (s : Shared) (us : List Value), us.length = ps.length → BindsTo s fd ⟨us, []⟩ (ps.zip us)) (hr : Room k X.A) : OpR X (compareOp .In) (rInO C sp) := by
  intro pins s σ H x y v u Q I rx ry h
  obtain ⟨a, dx, fs, rfl, ha, hsp⟩ := h
  cases ry
  obtain ⟨mA, J, _⟩ := ins_get I.hok ha
  obtain ⟨od, J, _⟩ := J.look
  have hK := I.kIn
  show wpAny _ _ (contains (.ref a) v >>= fun b => pure (Value.bool b)) _ _ s
  refine wpAny_bind ?_
  unfold contains
  refine wpAny_holding ?_
  show wpAny _ _ (specialOf (.ref a) "__contains__" >>= _) _ _ s
  refine wpAny_bind (wpAny_bind (J.type.here ((PySem.W.looks_findIn hK M.at_).here ?_)))
  rw [if_neg (show ¬ ((some (Value.ref f) == some Value.none) = true) from Bool.false_ne_true)]
  refine wpAny_bind ?_
  unfold callSpecialUnlessNone?
  refine wpAny_bind (wpAny_bind (J.type.here ((PySem.W.looks_findIn hK M.at_).here ?_)))
  refine wpAny_holding (wpAny_bind ((PySem.W.bind_fn hK _ (beq_iff_eq.mp M.fn)).here ?_))
  refine PySem.W.KFB.if_not rfl ?_
  refine wpAny_bind ?_
  have r2 : Vals [V.ref a, x] [Value.ref a, v] := .cons rfl (.cons rx .nil)
  refine wpAny_call (codeAny_mono (F.run X.A X.stack s H ⟨[.ref a, v], []⟩ [.ref a, v] [.ref a, x] _ E0 hr I.env0 (bi s [.ref a, v] (by rw [hps]; rfl)) r2 hsp) fun r s' hq' => ?_)
  cases r with
  | error e => exact False.elim hq'
  | ok fl =>
    cases fl with
    | next => exact False.elim hq'
    | brk => exact False.elim hq'
    | cont => exact False.elim hq'
    | ret u =>
      obtain ⟨v', H', I', rv, b, ev, q⟩ := I.after hq'
      subst ev
      cases rv
      exact wpAny_pure (wpAny_truthy_bool (wpAny_pure ⟨.bl b, H', I', rfl, q⟩))
end
/-! ### list(o), o of an own class with __iter__ -/
def rListO (K : PySem.W.Frag) (C : Addr) (fld : Str) : List V → Hp → VK → Prop := fun xs H Q => ∃ (a dx : Addr) (fs : List (Str × V)) (t : Addr) (zs : List V), xs = [.ref a] ∧ H a = some (.ins C dx fs) ∧ fs.lookup fld = some (.ref t) ∧ SqT K H t zs ∧ ∀ q, H q = none → Q (.ref q) (upd H q (.lst zs))
theorem vals_of_items {zs : List V} {its : List Value} {acc : Array Value} (rv : Vals zs its) (h : ItemsOf (fun i v => its.toArray[i]? = some v) acc its.toArray.size) : Vals zs acc.toList := by
  have e : acc.toList = its := by
    apply List.ext_getElem?
    intro i
    have hs : acc.size = its.length := by rw [h.1]; exact List.size_toArray ..
    by_cases c : i < its.length
    · have c2 : i < acc.size := by omega
      have h4 : its.toArray[i]? = some acc[i] := h.2 i acc[i] (Array.getElem?_eq_getElem c2)
      rw [List.getElem?_toArray] at h4
      rw [h4, Array.getElem?_toList]
      exact Array.getElem?_eq_getElem c2
    · rw [List.getElem?_eq_none (by rw [Array.length_toList]; omega), List.getElem?_eq_none (by omega)]
  rw [e]; exact rv
section
variable {X : Cx} {C fi : Addr} {fd : FuncData} {n : Nat} {fld : Str}
theorem call_listO (hc : X.calm = true) (M : Meth X.K C "__iter__" fi) (F : FnOkS X.prog X.w X.K X.mg X.base CX0 n fi fd ["self"] (spIter X.K C fld)) (b : ∀ (s : Shared) (us : List Value), us.length = 1 → BindsTo s fd ⟨us, []⟩ ((["self"] : List Str).zip us))
    (nolen : PySem.W.findIn X.K (.ref C) "__len__" = some none) (nohint : PySem.W.findIn X.K (.ref C) "__length_hint__" = some none) (hr : Room (n + 2) X.A) : CallR X (.type "list") (rListO X.K C fld) := by
  intro pins s σ H xs us Q I rv h
  obtain ⟨a, dx, fs, t, zs, rfl, ha, hf, hsq, hq⟩ := h
  obtain ⟨u, rfl, ru⟩ := rv.one
  cases ru
  have sb : Sub X n X.A.in1.in1 := (Sub.in1 (Sub.in1 (⟨hr, rfl⟩ : Sub X (n + 2) X.A)))
  refine callType_codes (Q₁ := fun obj s₁ => obj = .ref s.heap.objs.size ∧ s₁ = { s with heap := s.heap.push { cls := .type "list", data := .seq #[] } }) PySem.F.called_list (PySem.F.typeCall_list_1 _) PySem.F.entry_list_init
    (code_list_new _ ⟨rfl, rfl⟩) fun obj s₁ h₁ => ?_
  obtain ⟨rfl, rfl⟩ := h₁
  have hS : (s.heap.push { cls := .type "list", data := .seq #[] }).get? s.heap.objs.size = some { cls := .type "list", data := .seq #[] } := Heap.get?_push_size _ rfl
  refine ⟨⟨_, hS, rfl⟩, PySem.F.args_list_init_2 _ _, ?_⟩
  have fr : H s.heap.objs.size = none := I.hok.fresh (Nat.le_refl _)
  generalize hSa : s.heap.objs.size = S at *
  have I1 : Inv X pins σ (upd H S (.lst [])) { s with heap := s.heap.push { cls := .type "list", data := .seq #[] } } := by subst hSa; exact I.lnew (its := []) (t' := s.toks) .nil (Nat.zero_le _)
  show wpAny _ _ (do let old ← Builtin.List.listItems (.ref S); Builtin.List.listUpdate (.ref S) (fun _ => #[]); letGo old.toList.reverse; Builtin.List.listExtendWith (.ref S) (.ref a) .none) _ _ _
  refine wpAny_bind ?_
  unfold Builtin.List.listItems
  refine wpAny_bind (wpAny_seqItems hS rfl (wpAny_pure ?_))
  show wpAny _ _ (updateSeq S (fun _ => #[]) >>= fun _ => letGo (#[] : Array Value).toList.reverse >>= fun _ => Builtin.List.listExtendWith (.ref S) (.ref a) .none) _ _ _
  refine wpAny_bind (wpAny_updateSeq hS rfl ?_)
  have I2 := I1.lset (f := fun _ => #[]) (its := []) (its' := []) (ys := []) (t' := s.toks) upd_same hS rfl .nil (Nat.zero_le _)
  rw [upd_upd] at I2
  refine wpAny_bind (wpAny_letGo ?_)
  have ha2 : upd H S (.lst []) a = some (.ins C dx fs) := by rw [upd_ne (ne_of_none ha fr)]; exact ha
  have hsq2 : SqT X.K (upd H S (.lst [])) t zs := by
    rcases hsq with (h | ⟨o, h⟩) | r
    · exact .inl (.inl (by rw [upd_ne (ne_of_none h fr)]; exact h))
    · exact .inl (.inr ⟨o, by rw [upd_ne (ne_of_none h fr)]; exact h⟩)
    · exact .inr r
  have hne : S ≠ a := Ne.symm (ne_of_none ha fr)
  obtain ⟨mA, J, _⟩ := ins_get I2.hok ha2
  obtain ⟨od, J, _⟩ := J.look
  unfold Builtin.List.listExtendWith
  refine wpAny_bind (J.type.here ?_)
  have h1 : Builtin.List.listSameRef (.ref S) (.ref a) = false := by simp [Builtin.List.listSameRef, hne]
  have h2 : (Value.ref C == Value.type "list") = false := rfl
  have h3 : (Value.ref C == Value.type "tuple") = false := rfl
  simp only [h1, h2, h3, Bool.or_false, Bool.false_eq_true, if_false]
  refine wpAny_bind (wpAny_mono (own_pyIter (A1 := X.A.in1.in1) I2 sb M F b ha2 hf hsq2 (Q := fun v s' => ∃ it, v = .ref it ∧ FpOk X pins (upd H S (.lst [])) it ∧ s'.heap.IsTupleIter it t 0 ∧ Inv X pins σ (upd H S (.lst [])) s') fun it s' hle hn st I3 => ⟨it, rfl, I2.fpOk hle hn, st, I3⟩) (fun v s' hv => ?_) fun e s' he => he)
  obtain ⟨it, rfl, fp, st, I3⟩ := hv
  obtain ⟨mA3, J3, _⟩ := ins_get I3.hok ha2
  obtain ⟨od3, J3, _⟩ := J3.look
  have hK3 := I3.kIn
  have hint : ∀ {Q : Bool → Shared → Prop} {E : Value → Shared → Prop}, Q true s' → wpAny (model X.prog X.w) X.A.in1.in1 (Builtin.List.listLengthHint (.ref a)) Q E s' := fun {Q E} h => by
    unfold Builtin.List.listLengthHint
    refine wpAny_bind (wpAny_bind (J3.type.here ((PySem.W.looks_findIn hK3 nolen).here ?_)))
    refine PySem.W.KFB.if_not rfl ?_
    refine PySem.W.KFB.if_not rfl ?_
    refine wpAny_bind (wpAny_bind (J3.type.here ((PySem.W.looks_findIn hK3 nohint).here ?_)))
    exact wpAny_pure h
  refine wpAny_bind (wpAny_holding (hint ?_))
  have loop : ∀ (s4 : Shared), Inv X pins σ (upd H S (.lst [])) s4 → s4.heap.IsTupleIter it t 0 →
      codeAny (model X.prog X.w) X.A.in1 (.builtin "list.extend.loop" ⟨[.ref S, .ref it, .none], []⟩) (wants (fun r s₂ => r = .none ∧ EP X pins σ Q (.ref S) s₂) X.xe) s4 := fun s4 I4 st4 => by
    obtain ⟨its, rv4, pT, hz⟩ := I4.tuple hsq2
    have hT : s4.heap.IsTuple t its.toArray := pT
    obtain ⟨z, its0, c0, r0, hl0, e0⟩ := I4.lstM upd_same
    cases r0
    have hti : t ≠ it := fun z => by
      obtain ⟨o1, e1, c1, _⟩ := hT
      obtain ⟨o2, e2, c2, _⟩ := st4
      rw [z, e2] at e1
      cases e1
      rw [c1] at c2
      exact absurd c2 (by decide)
    have hSt : S ≠ t := fun z => by
      obtain ⟨o1, e1, c1, _⟩ := hT
      rw [← z, e0] at e1
      cases e1
      exact absurd (show (Value.type "list" : Value) = .type "tuple" from c1) (by decide)
    have hSi : S ≠ it := fun z => by
      have := fp.1
      rw [← z, upd_same] at this
      cases this
    have W := (Walks.tuple (prog := X.prog) (w := X.w) (A := X.A.in1.in1) (I4.ok.hd hc) it t hti its.toArray).toS
    refine codeAny_extend_loopS W (by rw [List.size_toArray, ← rv4.length]; exact hz) S (by simp; exact ⟨hSi, hSt⟩) .none its.toArray.size 0 s4 #[] c0 rfl (Nat.zero_le _) ⟨st4, hT⟩ e0 (ItemsOf.nil _) fun s5 acc c' hm hS5 hacc => ?_
    rw [Moved.eq_with hm]
    refine ⟨rfl, .ref S, upd H S (.lst zs), ?_, rfl, hq S fr⟩
    obtain ⟨f0, f1, f2, f3, f4, f5⟩ := fp
    have kp : ∀ b o, b ≠ S → b ≠ it → s4.heap.get? b = some o → s5.heap.get? b = some o := fun b o h1 h2 e => hm.heap b o (fun hmem => by
      rcases List.mem_cons.mp hmem with z | z
      · exact h1 z
      · exact h2 (List.mem_singleton.mp z)) e
    have m1 : (s5.heap.update S (fun _ => { cls := .type "list", data := .seq #[] c0 })).get? S = some { cls := .type "list", data := .seq #[] c0 } := Heap.get?_update_self _ hS5 rfl
    have J1 : Inv X pins σ (upd H S (.lst [])) { s4 with heap := s5.heap.update S (fun _ => { cls := .type "list", data := .seq #[] c0 }), toks := s5.toks } := I4.turned (fun b o hb e => by
      by_cases hbS : b = S
      · subst hbS; rw [e0] at e; cases e; exact m1
      · rw [Heap.get?_update_ne _ _ _ _ hbS]; exact kp b o hbS hb e) f0 f1 f3 f4 f5
    have J2 := J1.write (x := S) (e := S) (o := .lst zs) (t' := s5.toks) (h' := s5.heap) (by rw [upd_same]; exact trivial) (.inl rfl) (fun b o hb e => by
      rw [Heap.get?_update_ne _ _ _ _ hb] at e; exact e) ⟨_, hS5⟩ (show ObjOk X.prog X.w _ _ _ (.lst zs) from ⟨hz, acc.toList, c', vals_of_items rv4 hacc, by rw [Array.toArray_toList]; exact hS5⟩)
    rw [upd_upd] at J2
    exact J2
  refine wpAny_ite_split (fun _ => ?_) (fun _ => wpAny_pure ⟨plainId_quiet PySem.F.plain_extend_loop _, loop s' I3 st⟩)
  refine wpAny_bind (wpAny_rule ?_)
  refine wpAny_bind ?_
  show wpAny _ _ (updateSeq S (·.push .none) >>= fun _ => updateSeq S (·.pop)) _ _ _
  obtain ⟨z, its, k, r3, hl3, e3⟩ := I3.lstM upd_same
  cases r3
  refine wpAny_bind (wpAny_updateSeq e3 rfl ?_)
  have K2 := I3.lset (f := (·.push Value.none)) (its' := [Value.none]) (ys := [.non]) (t' := s'.toks) upd_same e3 (by simp) (.cons rfl .nil) (by rw [List.length_singleton, sizeLine_eq]; decide)
  obtain ⟨z4, its4, k4, r4, hl4, e4⟩ := K2.lstM upd_same
  obtain ⟨u4, rfl, ru4⟩ := r4.one
  refine wpAny_updateSeq e4 rfl ?_ (by show 1 ≤ sizeLine; rw [sizeLine_eq]; decide) (by show 0 ≤ sizeLine + 1; exact Nat.zero_le _)
  have K3 := K2.lset (f := (·.pop)) (its := [u4]) (its' := []) (ys := []) (t' := s'.toks) upd_same e4 (by rfl) .nil (Nat.zero_le _)
  rw [upd_upd, upd_upd] at K3
  have hSi : it ≠ S := fun z => by
    have := fp.1
    rw [z, upd_same] at this
    cases this
  refine wpAny_pure ⟨plainId_quiet PySem.F.plain_extend_loop _, loop _ K3 ?_⟩
  exact (st.at fun o e => (Heap.get?_update_ne _ _ _ _ hSi).trans e).at fun o e => (Heap.get?_update_ne _ _ _ _ hSi).trans e
end
end L2
namespace G
open PySem PySem.Spec PyProof.Rows L2
section
variable {X : Cx} {K : PySem.W.Frag} {σ σ' : L2.St} {H : Hp} {F : List Addr} {ta te : TE} {v x y : V} {α β : Type} {τ : Ty α} {C : Addr} {ns : List Str} {fld : Str} {Q : VK}
theorem cl_listO {j k : Nat} (T : CalIt X.prog X.w X.K X.mg C fld j) (nl : NoAttr K C "__len__" ∧ NoAttr K C "__length_hint__") (hr : Room k X.A) (hj : j + 2 ≤ k := by decide) (hc : X.calm = true := by rfl) (e : X.K = K := by rfl) : CallR X (.type "list") (rListO K C fld) := by
  subst e
  obtain ⟨f, fd, M, b, F⟩ := T.ex
  exact call_listO hc M (F X.base) b nl.1 nl.2 (hr.mono hj)
theorem w_listO {ts : Tys β} {n : Nat} {pr : β → List α} {d : β} (A : At ts n (yTupL τ) pr) (nd : ns.Nodup) (hn : ns[n]? = some fld) (r : (yObj C ns ts).rep K H F v d) (k : ∀ p H', H p = none → Chg [] H H' → (yLst τ).rep K H' [p] (.ref p) (pr d) → Q (.ref p) H') : rListO K C fld [v] H Q := by
  obtain ⟨_, a, dx, vs, rfl, g, _, rs⟩ := r
  obtain ⟨u, F1, e, ru, sub⟩ := A rs
  obtain ⟨t, zs, rfl, s, q⟩ := tupl_sq ru
  exact ⟨a, dx, _, t, zs, rfl, g, lookup_zip nd hn e, s, fun p np => k p _ np (Chg.lay np trivial) ⟨p, _, rfl, rfl, upd_same, Paired.mapP q fun _ _ z => Ty.ex z (Chg.lay np trivial)⟩⟩
theorem x_inO {sp : Sp} {ts : Tys β} {d : β} (r : (yObj C ns ts).rep K H F y d) (k : sp [y, x] H (fun v H' => ∃ b, v = .bl b ∧ Q (.bl b) H') E0) : rInO C sp x y H Q := by
  obtain ⟨_, a, dx, vs, rfl, g, _, rs⟩ := r
  exact ⟨a, dx, _, rfl, g, k⟩
theorem op_inOK {ps : List Str} {j k : Nat} {sp : Sp} (M : CalM X.prog X.w X.K X.mg C "__contains__" ps j sp) (hps : ps.length = 2) (hr : Room k X.A) (hj : j ≤ k := by decide) : OpR X (compareOp .In) (rInO C sp) := by
  obtain ⟨f, fd, hm, b, F⟩ := M.ex
  exact op_inO hm (F X.base) hps b (hr.mono hj)
def tTru (K : PySem.W.Frag) (ta : TE) : TT := fun σ H Q => ta σ H fun x H' => ∃ k, TruV K x H' k ∧ Q k H'
theorem pt_truK {a : Expr} (ha : PE X a ta) (he : ∀ whole, isTrue a X.env whole = (do let v ← whole; standAt a.pos; holding [v] (truthy v)) := by intro _; rfl) (e : X.K = K := by rfl) : PT X a (tTru K ta) := by
  subst e; exact pt_truth ha he
theorem emp_pr {R : V → α → Prop} {vs : List V} {xs : List α} (q : Paired R vs xs) : vs.isEmpty = xs.isEmpty := by cases q <;> rfl
theorem ans_truL {xs : List α} (r : (yLst τ).rep K H F v xs) (h : Val ta σ H v) : Ans (tTru K ta) σ H (!xs.isEmpty) := fun Q q => by
  obtain ⟨p, vs, rfl, s, pq⟩ := lst_sq r
  exact h _ ⟨!vs.isEmpty, .inl ⟨vs, s, rfl⟩, by rw [emp_pr pq]; exact q⟩
theorem ans_truT {xs : List α} (r : (yTupL τ).rep K H F v xs) (h : Val ta σ H v) : Ans (tTru K ta) σ H (!xs.isEmpty) := fun Q q => by
  obtain ⟨p, vs, rfl, s, pq⟩ := tupl_sq r
  exact h _ ⟨!vs.isEmpty, .inr (.inl ⟨vs, s, rfl⟩), by rw [emp_pr pq]; exact q⟩
end
end G

/-! ### own errors whose __init__ says super().__init__('..' + part) and keeps part -/
namespace PySem
namespace ErrX
open PySem.W PySem.Calls PyProof.Rows PySem.HandSPX
def eA (p1 p2 : Pos) : Arguments := { posonlyargs := [], args := [{ arg := "self", annotation := none, pos := p1 }, { arg := "part", annotation := none, pos := p2 }], vararg := none, kwonlyargs := [], kw_defaults := [], kwarg := none, defaults := [] }
def eB (m : Str) (p0 p1 p2 p3 p4 p5 p6 p7 q1 q2 q3 q4 : Pos) : List Stmt :=
  [.Expr (.Call (.Attribute (.Call (.Name "super" p0) [] [] p1) "__init__" p2) [.BinOp (.Constant (.str m) 0 p3) .Add (.Name "part" p4) p5] [] p6) p7, .Assign [.Attribute (.Name "self" q1) "part" q2] (.Name "part" q3) q4]
def eS : Scope := { kind := .function, names := [(PySem.Str.ofString "self", .local), (PySem.Str.ofString "part", .local), (PySem.Str.ofString "__class__", .free), (PySem.Str.ofString "super", .globalImplicit)], isGenerator := false, isCoroutine := false, more := [] }
/-- what the written part says of the class at C, and of its __init__, at fI -/
structure ErrTxt (P : Program) (K : Frag) (mg : Str → Option Value) (x qual : Str) (st : Stmt) (C fI : Addr) : Prop where
  gC : mg x = some (.ref C)
  cls : ∃ nm q N bs bm sn sub ab col dd k0 k1 k2 k3 k5, K.lookup C = some (excClassObj nm q C N bs bm true sn sub ab col dd k0 k1 k2 k3 k5 "ValueError.__new__") ∧ refsVE bm = true
  sa : findIn K (.ref C) "__setattr__" = some (some (.builtin "object.__setattr__"))
  ga : findIn K (.ref C) "__getattribute__" = some (some (.builtin "BaseException.__getattribute__"))
  gg : findIn K (.ref C) "__getattr__" = some none
  noN : findIn K (.ref C) "part" = some none
  iC : findIn K (.ref C) "__init__" = some (some (.ref fI))
  tC : typeIn K (.ref fI) = some (.type "function")
  kC : keepIn K (.ref C) = true
  exC : subIn K (.ref C) (.type "BaseException") = some true
  veC : subIn K (.ref C) (.type "ValueError") = some true
  tyC : typeIn K (.ref C) = some (.type "type")
  hdC : hasDictIn K C = true
  mroC : mroIn K C (.ref C) = some true
  sup : ks_superIn K C C "__init__" = some (some (.builtin "ValueError.__init__"))
  opq : nsIn K cStatics "thirdparty.any" = some none
  nsu : mg "super" = none
  top : (P.main.scope.names.lookup ("super" : Str)).isSome = false
  fn : ∃ (oc : Value) (od : Option Addr) (doc pm : Value) (an : Option Addr) (cda : Addr) (ct : Value) (cc : Addr) (osl : Array (Option Value)),
    K.lookup fI = some ⟨oc, od, .func (ksFn "__init__" qual (L2.defArgs st) (L2.defBody st) (L2.defScope st) .none .none doc pm an (.ref cda) ct cc), osl⟩ ∧ codeIn K (.ref cda) qual = true ∧
    (∃ (ccl : Value) (cdd : Option Addr) (vs : Array Value) (ccs : Array (Option Value)) (file : Str) (tf : Tok), K.lookup cda = some ⟨ccl, cdd, .fields vs, ccs⟩ ∧ vs[2]? = some (.str file tf) ∧ ((P.main.file : Str) == file) = true) ∧
    ∃ (cl : Value) (cld : Option Addr) (csl : Array (Option Value)), K.lookup cc = some ⟨cl, cld, .cell (some (.ref C)), csl⟩
  shape : ∃ (msg : Str) (r1 r2 p0 p1 p2 p3 p4 p5 p6 p7 q1 q2 q3 q4 : Pos), L2.defArgs st = eA r1 r2 ∧ L2.defBody st = eB msg p0 p1 p2 p3 p4 p5 p6 p7 q1 q2 q3 q4 ∧ L2.defScope st = eS ∧ msg.length ≤ 100 ∧
    ∀ L f cda cc : Addr, ∃ pl : Sem Bool, eval (.Call (.Attribute (.Call (.Name "super" p0) [] [] p1) "__init__" p2) [.BinOp (.Constant (.str msg) 0 p3) .Add (.Name "part" p4) p5] [] p6) (ksEnv qual eS L f (.ref cda) cc) = (do
      let ov ← attributeBase (.Call (.Name "super" p0) [] [] p1) "__init__" (ksEnv qual eS L f (.ref cda) cc) (eval (.Call (.Name "super" p0) [] [] p1) (ksEnv qual eS L f (.ref cda) cc))
      standAt p2.atName
      let (f', first) ← holding [ov] (getMethod ov "__init__" pl)
      callWith p6 f' first (backTo p6 (starEach [.BinOp (.Constant (.str msg) 0 p3) .Add (.Name "part" p4) p5] (ksEnv qual eS L f (.ref cda) cc))) [])
/-- what __init__ leaves of a fresh exception at x -/
structure InitEnd (h h' : Heap) (x C dx : Addr) (v : Value) : Prop where
  keep : ∀ b o, b ≠ x → h.get? b = some o → h'.get? b = some o
  obj : ∃ t1 : Addr, h'.get? x = some { cls := .ref C, dict := some dx, data := .fields #[.ref t1, .none, .none, .none, .bool false, .none] }
  dbig : h.objs.size ≤ dx
  dne : dx ≠ x
  ns : h'.Ns1 dx (fun y => if y = "part" then some v else none)
section
variable {prog : Program} {w : World} {A : Around} {E : Value → Shared → Prop} {R : Result → Shared → Prop} {s : Shared} {K : Frag} {mg mb : Str → Option Value} {C fI : Addr} {cn qual : Str} {st : Stmt}
theorem ldX {M : Model} {s : Shared} {name : Str} {scope : Scope} {L a cc : Addr} {cd : Value} {m : Str → Option Value} {x : Str} {pos : Pos} {v : Value} {Q : Value → Shared → Prop} {A : Around} {E : Value → Shared → Prop} (hn : s.heap.Ns L m) (hv : m x = some v) (h : Q v s)
    (hk : scope.kind = .function := by rfl) (hl : (ksEnv name scope L a cd cc).kindOf x = some .local := by rfl) (hd : (x == ("__debug__" : Str)) = false := by decide) :
    wpAny M A (eval (.Name x pos) (ksEnv name scope L a cd cc)) Q E s := wpAny_Name (wpAny_loadName_local hk hl hn hv h) hd
theorem err_init (T : ErrTxt prog K mg cn qual st C fI) {x t0 : Addr} {y : Str} {ty : Tok} (X : K.In s.heap) (hg : s.heap.Ns mainGlobals mg) (hb : s.heap.Ns builtinsNs mb) (hbs : mb "super" = bootBuiltins "super") (hlim : s.heap.NoLimit) (hx : s.heap.get? x = some (excO C t0)) (hnx : K.lookup x = none) (hy : y.length ≤ 1000000) (hroom : A.depth < recursionLimit)
    (hq : ∀ h' tk dx, InitEnd s.heap h' x C dx (.str y ty) → R (.ok (.ret .none)) { s with heap := h', toks := tk }) :
    codeAny (model prog w) A (.call (.ref fI) ⟨[.ref x, .str y ty], []⟩) R s := by
  obtain ⟨oc, od, doc, pm, an, cda, ct, cc, osl, ho, hcd, ⟨ccl, cdd, vs, ccs, file, tf, hcode, hvs, hfile⟩, cl, cld, csl, hcell⟩ := T.fn
  obtain ⟨msg, r1, r2, p0, p1, p2, p3, p4, p5, p6, p7, q1, q2, q3, q4, eA', eB', eS', hml, hev⟩ := T.shape
  rw [eA', eB', eS'] at ho
  obtain ⟨nm, q, N, bs, bm, sn, sub, ab, col, dd, k0, k1, k2, k3, k5, hC, hbm⟩ := T.cls
  have hcl : clsIn K C = some { name := nm, bases := bs, mro := .ref C :: bm, ns := N, qualname := q, hasDict := true, slotNames := sn, subclasses := sub, abstract := ab, collection := col, hasDel := false } := by unfold clsIn; rw [hC] <;> rfl
  refine ks_codeAny_call_defAt (fd := ksFn "__init__" qual (eA r1 r2) (eB msg p0 p1 p2 p3 p4 p5 p6 p7 q1 q2 q3 q4) eS .none .none doc pm an (.ref cda) ct cc) (body := eB msg p0 p1 p2 p3 p4 p5 p6 p7 q1 q2 q3 q4) (binds := [("self", .ref x), ("part", .str y ty)]) hroom (X _ _ ho) rfl hlim (codeRec_of X hcd) rfl (BindsTo.of_eq (by first | rfl | with_unfolding_all rfl)) (fun z hz => by revert z; show ∀ z ∈ eS.names, z.2 ≠ NameKind.cell; decide) (by first | decide | (intro z hz; simp at hz; rcases hz with rfl | rfl <;> rfl)) (fun h₁ hns k => ?_) rfl rfl rfl
  have X₁ : K.In h₁ := X.keeps k
  have hx₁ := k _ _ hx
  show wpAt (model prog w) _ _ (execs (_ :: _) (ksEnv qual eS s.heap.objs.size fI (.ref cda) cc)) _ _ _
  obtain ⟨pl, he⟩ := hev s.heap.objs.size fI cda cc
  refine ks_wpAt_execs_cons (ks_wpAt_Expr_any (ks_wpAt_MethodCall (pl := pl) (he := he) ?_))
  obtain ⟨oD, hD1, hD2⟩ : ∃ oD, h₁.get? C = some oD ∧ oD.data = .cls { name := nm, bases := bs, mro := .ref C :: bm, ns := N, qualname := q, hasDict := true, slotNames := sn, subclasses := sub, abstract := ab, collection := col, hasDel := false } := ⟨_, X₁ _ _ hC, rfl⟩
  refine ks_wpAt_super_base (env := ksEnv qual eS s.heap.objs.size fI (.ref cda) cc) rfl rfl rfl rfl (X₁ _ _ ho) rfl rfl rfl (X₁ _ _ hcode) rfl hvs hfile T.top ?_
  refine ks_loadName_global rfl rfl (loadGlobal_builtin (env := ksEnv qual eS s.heap.objs.size fI (.ref cda) cc) (hg.keeps k) T.nsu (hb.keeps k) (hbs.trans (by decide +kernel)) ⟨rfl, ?_⟩)
  refine wpAny_loadName_free rfl rfl rfl ⟨_, X₁ _ _ hcell, rfl⟩ ?_
  refine wpAny_loadName_local rfl rfl hns (v := .ref x) rfl ?_
  refine ks_wpAny_isType_cls hD1 hD2 ⟨rfl, ?_⟩
  refine ks_wpAny_call_super hD1 hD2 hx₁ rfl (fun c e => by cases e) (looks_mroIn X₁ T.mroC) (fun h₂ hso k₂ => ?_)
  have X₂ : K.In h₂ := X₁.keeps k₂
  have hx₂ := k₂ _ _ hx₁
  have I₂ : InstAt h₂ x (excO C t0) C none := ⟨hx₂, rfl, rfl, trivial⟩
  have hI : Looks (model prog w) h₂ (isInstance (.ref x) (.type "ValueError")) true := I₂.type.andThen (looks_subIn X₂ T.veC)
  have hsup := T.sup
  unfold ks_superIn at hsup
  rw [hcl] at hsup
  refine kxs_getMethod kxs_ValueError hso (looks_opaque X₂ T.opq) (l₀ := .ref C :: bm) (fun A Q E s k q => wpAny_bind ((looks_clsIn X₂ hcl) A _ E s k (wpAny_pure q))) rfl X₂ hsup hI (ks_ne X₂ I₂ hcl) rfl ?_
  have k₃ : ∀ b o, h₂.get? b = some o → (h₂.push (kxs_mw "ValueError.__init__" x)).get? b = some o := fun b o e => Heap.get?_push_of_some _ e
  have hu : (h₂.push (kxs_mw "ValueError.__init__" x)).get? h₂.objs.size = some (kxs_mw "ValueError.__init__" x) := Heap.get?_push_at rfl rfl
  have hns₃ : (h₂.push (kxs_mw "ValueError.__init__" x)).Ns s.heap.objs.size (fun y' => ([("self", .ref x), ("part", Value.str y ty)] : List (Str × Value)).reverse.lookup y') := (hns.keeps k₂).keeps k₃
  refine kxs_callWith (i := "ValueError.__init__") (x := x) rfl (evalArgs_plain (args_cons (wpAny_BinOp (wpAny_Constant_str (ldX hns₃ (v := .str y ty) rfl (add_str (fun t' tk => args_nil ⟨hu, ?_⟩) (by rw [sizeLine_eq]; omega))))) rfl))
  refine wpAny_call (codeAny_of_tree ?_)
  show wpAny _ _ (callAny (.ref h₂.objs.size) ⟨_, []⟩) _ _ _
  simp only [callAny]
  refine wpAny_bind (wpAny_load hu ?_)
  simp only [kxs_mw, show (Value.type "method-wrapper" == Value.type "method" || Value.type "method-wrapper" == Value.type "builtin_function_or_method" || Value.type "method-wrapper" == Value.type "method-wrapper") = true by decide, if_true]
  refine KFB.if_so (by decide) ?_
  refine wpAny_bind (check_bound_init F.excBase_ValueError.toExcCallFacts (k₃ _ _ (X₂ _ _ hC)) (k₃ _ _ hx₂) rfl ?_)
  refine wpAny_bind (wpAny_pure (wpAny_pure ?_))
  refine ⟨plainId_quiet F.excBase_ValueError.init.plain _, codeAny_builtin F.excBase_ValueError.initEntry ?_⟩
  refine exc_init_tree (cls := .ref C) (t0 := t0) (dv := none) (c2 := .none) (c3 := .none) (b4 := .bool false) (k₃ _ _ hx₂) (by rw [sizeLine_eq]; exact (by decide : 1 ≤ 16777216)) fun h₄ k₄ hx₄ _ => ?_
  show wpAt (model prog w) _ _ (execs (_ :: _) (ksEnv qual eS s.heap.objs.size fI (.ref cda) cc)) _ _ _
  have kk : ∀ b o, b ≠ x → s.heap.get? b = some o → h₄.get? b = some o := fun b o hb e => k₄ b o hb (k₃ b o (k₂ b o (k b o e)))
  have hLx : s.heap.objs.size ≠ x := Nat.ne_of_gt (Heap.lt_size hx)
  have hns₄ : h₄.Ns s.heap.objs.size (fun y' => ([("self", .ref x), ("part", Value.str y ty)] : List (Str × Value)).reverse.lookup y') := by
    obtain ⟨oL, es, ep, hL, r⟩ := hns₃
    exact ⟨oL, es, ep, k₄ _ _ hLx hL, r⟩
  have X₄ : K.In h₄ := fun b o e => k₄ b o (fun z => by
    rw [z, hnx] at e; cases e) (k₃ b o (X₂ _ _ e))
  refine wpAt_of_wpAny (wpAny_execs_cons (plainObj_wpAny_Assign_Attribute ?_))
  refine ldX (v := .str y ty) hns₄ rfl (ldX (v := .ref x) hns₄ rfl ?_)
  refine set_plain X₄ (ox := excO C (h₂.push (kxs_mw "ValueError.__init__" x)).objs.size) (od := none) ⟨hx₄, rfl, rfl, trivial⟩ T.sa ?_
  refine exc_osa X₄ hx₄ hcl (show refsVE (.ref C :: bm) = true from hbm) rfl T.noN (fun h₅ tk₅ dx k₅ dn dne hx₅ hn₅ => ?_)
  show wpAny _ _ (execs _ _) _ _ _
  have z : s.heap.objs.size < h₄.objs.size := hns₄.lt
  exact wpAny_execs_nil (hq h₅ tk₅ dx ⟨fun b o hb e => k₅ b o hb (kk b o hb e), ⟨_, hx₅⟩, Nat.le_of_lt (Nat.lt_of_lt_of_le z dn), dne, hn₅⟩)
/-- a made error -/
structure OwnMade (h h' : Heap) (e C d : Addr) (v : Value) : Prop where
  keep : ∀ b o, h.get? b = some o → h'.get? b = some o
  new : h.objs.size ≤ e
  obj : ∃ oe vs, h'.get? e = some oe ∧ oe.cls = .ref C ∧ oe.dict = some d ∧ oe.data = .fields vs ∧ vs[1]? = some .none
  dbig : h.objs.size ≤ d
  dne : d ≠ e
  ns : h'.Ns1 d (fun y => if y = "part" then some v else none)
theorem one_size (v : Value) : [v].length ≤ sizeLine := by
  rw [sizeLine_eq]
  exact (by decide : 1 ≤ 16777216)
theorem err_made (T : ErrTxt prog K mg cn qual st C fI) {y : Str} {ty : Tok} (X : K.In s.heap) (hg : s.heap.Ns mainGlobals mg) (hb : s.heap.Ns builtinsNs mb) (hbs : mb "super" = bootBuiltins "super") (hlim : s.heap.NoLimit) (hy : y.length ≤ 1000000) (hroom : A.depth + 1 < recursionLimit)
    (hq : ∀ h' tk e d, OwnMade s.heap h' e C d (.str y ty) → R (.ok (.ret (.ref e))) { s with heap := h', toks := tk }) :
    codeAny (model prog w) A (.call (.ref C) ⟨[.str y ty], []⟩) R s := by
  obtain ⟨nm, q, N, bs, bm, sn, sub, ab, col, dd, k0, k1, k2, k3, k5, hC, hbm⟩ := T.cls
  obtain ⟨hp, g, dr, tk, os⟩ := s
  have k : ∀ b o, hp.get? b = some o → ((hp.push (kdv_tup [.str y ty])).push (excO C hp.objs.size)).get? b = some o := fun b o e => Heap.get?_push_of_some _ (Heap.get?_push_of_some _ e)
  have hget : ((hp.push (kdv_tup [.str y ty])).push (excO C hp.objs.size)).get? (hp.objs.size + 1) = some (excO C hp.objs.size) := by heap_get
  have hnx : K.lookup (hp.objs.size + 1) = none := by
    cases e : K.lookup (hp.objs.size + 1) with
    | none => rfl
    | some o =>
      have z : hp.get? (hp.objs.size + 1) = some o := X _ _ e
      exact absurd (Nat.lt_of_succ_lt (Heap.lt_size z)) (Nat.lt_irrefl _)
  refine call_own F.excBase_ValueError (fun X => refsVE_contains X bm hbm) (X _ _ hC) (looks_findIn X T.iC) (fun self => bind_fn X self T.tC) (one_size _) ?_
  refine err_init (s := ⟨(hp.push (kdv_tup [.str y ty])).push (excO C hp.objs.size), g, dr, tk, os⟩) T (X.keeps k) (hg.keeps k) (hb.keeps k) hbs (hlim.keeps k) hget hnx hy ?_ fun h' tk' dx ⟨k', ⟨t1, hx⟩, dn, dne, hns⟩ => ?_
  · show A.depth + 1 < recursionLimit
    exact hroom
  · have old : ∀ b o, hp.get? b = some o → h'.get? b = some o := fun b o e => k' b o (Nat.ne_of_lt (Nat.lt_succ_of_lt (Heap.lt_size e))) (k b o e)
    have z : hp.objs.size + 1 + 1 ≤ dx := by
      first
        | (simpa only [Heap.size_push] using dn)
        | exact dn
        | (have q := dn; rw [Heap.size_push, Heap.size_push] at q; exact q)
    exact ⟨rfl, hq h' tk' (hp.objs.size + 1) dx ⟨old, Nat.le_succ _, ⟨_, _, hx, rfl, rfl, rfl, rfl⟩, Nat.le_trans (Nat.le_trans (Nat.le_succ _) (Nat.le_succ _)) z, dne, hns⟩⟩
end
end ErrX
end PySem
namespace L2
open PySem PySem.Spec PyProof.Rows
theorem relO_part {v : V} {v' : Value} (r : RelV v v') (f : Str) : RelO (List.lookup f [(("part" : Str), v)]) (if f = "part" then some v' else none) := by
  by_cases hw : f = "part"
  · subst hw
    rw [if_pos rfl]
    have q : List.lookup ("part" : Str) [(("part" : Str), v)] = some v := by simp [List.lookup]
    rw [q]
    exact r
  · rw [if_neg hw]
    have qw : (f == ("part" : Str)) = false := by simpa using hw
    have q2 : List.lookup f [(("part" : Str), v)] = none := by simp [List.lookup, qw]
    rw [q2]
    trivial
section
variable {X : Cx} {C fI : Addr} {cn qual : Str} {st : Stmt}
/-- C(e), e a text -/
def tMkErr (C : Addr) (ta : TA) : St → Hp → XK → Prop := fun σ H Q => ta σ H fun vs H1 => ∃ y : Str, vs = [.str y] ∧ y.length ≤ 1000000 ∧ ∀ d, H1 d = none → Q (.ref C) (some d) (upd H1 d (.xd [(("part" : Str), .str y)]))
theorem pmk_err {a : Expr} {ta : TA} {p pos : Pos} {k : Nat} (T : PySem.ErrX.ErrTxt X.prog X.K X.mg cn qual st C fI) (hr : Room k X.A) (ha : PA X [a] ta) (hg : Gl X cn := by rfl) (hdb : (cn == ("__debug__" : Str)) = false := by decide)
    (he : starEach (a :: []) X.env = (false, eval a X.env) :: starEach [] X.env := by rfl) (hpl : (backTo pos (starEach [] X.env)).any (·.1) = false := by rfl) :
    PMk X (.Call (.Name cn p) [a] [] pos) (tMkErr C ta) := by
  intro pins s σ H Q I h
  refine wpAny_Call_Name_kw (ld_glob I hg T.gC ?_ hdb)
  refine PySem.W.callWith_K (h₀ := X.base) I.ok.mod.kin T.kC (thn (ha.run pos pins s σ H _ I h) fun us s1 hh => ?_) he hpl
  obtain ⟨vs, H1, I1, r1, y, ev, hy, q1⟩ := hh
  subst ev
  refine ⟨I1.kIn, ?_⟩
  obtain ⟨v', rfl, rv⟩ := r1.one
  obtain ⟨ty, rfl⟩ := rv
  show wpAny _ _ (call (.ref C) [.str y ty]) _ _ _
  have hlim := I1.nolimit
  have hkb : ∀ b o, X.base.get? b = some o → s1.heap.get? b = some o := fun b o e => (I1.env0.bs b o e).1
  obtain ⟨mb, hbn, hbb⟩ := I1.ok.mod.blt
  obtain ⟨hp, g, dr, tk, os⟩ := s1
  refine wpAny_call (PySem.ErrX.err_made T I1.kIn (I1.ok.mod.glob.keeps hkb) (hbn.keeps hkb) (hbb "super" (by decide)) hlim hy (by have := hr.dp; omega) fun h' tk' e d M => ?_)
  show MkP X pins σ Q (.ref e) ⟨h', g, dr, tk', os⟩
  obtain ⟨oe, fv, hoe, hc, hd, hdat, h1⟩ := M.obj
  have hns := M.ns
  obtain ⟨G', g1, g2⟩ := restrict h' fun b => decide (b ≠ e)
  have gk : ∀ b, b ≠ e → G'.get? b = h'.get? b := fun b hb => g1 b (decide_eq_true hb)
  have ge : G'.get? e = none := g2 e (by simp)
  have old : ∀ b o, hp.get? b = some o → G'.get? b = some o := fun b o q => (gk b (Nat.ne_of_lt (Nat.lt_of_lt_of_le (Heap.lt_size q) M.new))).trans (M.keep b o q)
  have ob : ObjOk X.prog X.w (upd H1 d (.xd [(("part" : Str), .str y)])) G' d (.xd [(("part" : Str), .str y)]) :=
    ⟨_, hns.at (fun o q => (gk d M.dne).trans q), fun f => relO_part (show RelV (.str y) (.str y ty) from ⟨ty, rfl⟩) f⟩
  have J : Inv X pins σ (upd H1 d (.xd [(("part" : Str), .str y)])) ⟨G', g, dr, tk', os⟩ := I1.laid (t' := tk') old M.dbig ob
  refine ⟨e, oe, fv, ⟨G', g, dr, tk', os⟩, _, .ref C, some d, rfl, J, fun b o q => ?_, ge, hoe, ⟨hc, hd⟩, hdat, h1, ?_, rfl, I1.bare, raises_own T.exC T.tyC, q1 d (I1.hok.fresh M.dbig)⟩
  · by_cases hb : b = e
    · have q' : G'.get? b = some o := q
      rw [hb, ge] at q'; cases q'
    · exact (gk b hb).symm.trans q
  · rw [upd_ne (Ne.symm M.dne)]
    exact I1.hok.fresh M.new
end
end L2

/-! ### calls that may raise, at the slots that stand; isinstance and fields of the caught error -/
namespace L2
open PySem PySem.Spec PyProof.Rows
/-- C(..) whose __init__ may raise -/
def tMakeS (C : Addr) (sp : Sp) (dvs : List V) (E : St → XK) (t : TA) : TE := fun σ H Q => t σ H fun vs H1 => ∀ x dx, H1 x = none → H1 dx = none → dx ≠ x →
  sp (.ref x :: (vs ++ dvs)) (upd (upd H1 dx (.own x)) x (.ins C dx [])) (fun v H2 => v = .non ∧ Q (.ref x) H2) (E σ)
def tMakeKS (C : Addr) (n m : Nat) (sp : Sp) (gV : List V → List V → List V) (E : St → XK) (t tk : TA) : TE := fun σ H Q => t σ H fun vs H1 => tk σ H1 fun zs H2 => vs.length = n ∧ zs.length = m ∧ ∀ x dx, H2 x = none → H2 dx = none → dx ≠ x →
  sp (gV (.ref x :: vs) zs) (upd (upd H2 dx (.own x)) x (.ins C dx [])) (fun v H3 => v = .non ∧ Q (.ref x) H3) (E σ)
section
variable {X : Cx} {CX : CXT} {k n : Nat} {f C : Addr} {fd : FuncData} {ps ks : List Str} {sp : Sp} {E : St → XK} {x : Str} {p pos : Pos} {e : Expr} {es : List Expr} {kws : List Keyword} {t tk : TA} {g : List Value → List Value → List Value} {gV : List V → List V → List V} {ds : List Value} {dvs : List V}
theorem run_makeS {pins : List (Addr × Obj)} {σ : St} {H : Hp} {s : Shared} {Q : VK} {us : List Value} {vs : List V} (M : Mk X.K C f) (F : FnOk X.prog X.w X.K X.mg X.base CX k f fd ps sp) (hr : Room (k + 1) X.A) (hb : Binds X.K fd ps ds) (hd : Vals dvs ds)
    (hx : PassesAt CX X σ (E σ)) (I : Inv X pins σ H s) (r : Vals vs us)
    (h : ∀ x dx, H x = none → H dx = none → dx ≠ x → sp (.ref x :: (vs ++ dvs)) (upd (upd H dx (.own x)) x (.ins C dx [])) (fun v H2 => v = .non ∧ Q (.ref x) H2) (E σ)) :
    wpAny (model X.prog X.w) X.A (call (.ref C) us) (EP X pins σ Q) X.xe s := by
  have hq := h (s.heap.objs.size + 1) s.heap.objs.size (I.hok.fresh (Nat.le_succ _)) (I.hok.fresh (Nat.le_refl _)) (Nat.ne_of_lt (Nat.lt_succ_self _))
  have I2 := Inv.made (C := C) I
  have r2 : Vals (V.ref (s.heap.objs.size + 1) :: (vs ++ dvs)) (Value.ref (s.heap.objs.size + 1) :: (us ++ ds)) := .cons rfl (r.append hd)
  have hl : (Value.ref (s.heap.objs.size + 1) :: us ++ ds).length = ps.length := by
    have e := r2.length
    rw [F.len _ _ _ _ hq] at e
    exact e.symm
  refine wpAny_call (make_map (f := f) I.kIn M.makes M.init (beq_iff_eq.mp M.fn) (codeAny_mono (F.run _ X.stack _ _ ⟨Value.ref (s.heap.objs.size + 1) :: us, []⟩ (Value.ref (s.heap.objs.size + 1) :: (us ++ ds)) _ _ (E σ) (hr.make C us [])
    (I2.env0.make C us []) (hb _ (Value.ref (s.heap.objs.size + 1) :: us) I2.kIn hl) r2 hq) fun r s' hq' => ?_))
  cases r with
  | error e => exact hx pins _ _ e s' I2 hq'
  | ok fl =>
    cases fl with
    | ret u =>
      obtain ⟨v, H', I3, rv, ev, q3⟩ := I2.after hq'
      subst ev
      exact ⟨rv, ⟨V.ref (s.heap.objs.size + 1), H', I3, rfl, q3⟩⟩
    | next => exact False.elim hq'
    | brk => exact False.elim hq'
    | cont => exact False.elim hq'
theorem run_makeKS {pins : List (Addr × Obj)} {σ : St} {H : Hp} {s : Shared} {Q : VK} {us ws : List Value} {vs zs : List V} (M : Mk X.K C f) (F : FnOk X.prog X.w X.K X.mg X.base CX k f fd ps sp) (hr : Room (k + 1) X.A) (hb : KBn X.K fd ps (n + 1) ks g gV) (hx : PassesAt CX X σ (E σ))
    (I : Inv X pins σ H s) (r : Vals vs us) (rz : Vals zs ws) (l1 : vs.length = n) (l2 : zs.length = ks.length)
    (h : ∀ x dx, H x = none → H dx = none → dx ≠ x → sp (gV (.ref x :: vs) zs) (upd (upd H dx (.own x)) x (.ins C dx [])) (fun v H2 => v = .non ∧ Q (.ref x) H2) (E σ)) :
    wpAny (model X.prog X.w) X.A (call (.ref C) us (ks.zip ws)) (EP X pins σ Q) X.xe s := by
  have hq := h (s.heap.objs.size + 1) s.heap.objs.size (I.hok.fresh (Nat.le_succ _)) (I.hok.fresh (Nat.le_refl _)) (Nat.ne_of_lt (Nat.lt_succ_self _))
  have I2 := Inv.made (C := C) I
  have r1 : Vals (V.ref (s.heap.objs.size + 1) :: vs) (Value.ref (s.heap.objs.size + 1) :: us) := .cons rfl r
  have r2 := hb.rel r1 rz
  have n1 : (Value.ref (s.heap.objs.size + 1) :: us).length = n + 1 := by
    rw [List.length_cons, ← r.length, l1]
  refine wpAny_call (make_map (f := f) I.kIn M.makes M.init (beq_iff_eq.mp M.fn) (codeAny_mono (F.run _ X.stack _ _ ⟨Value.ref (s.heap.objs.size + 1) :: us, ks.zip ws⟩ (g (Value.ref (s.heap.objs.size + 1) :: us) ws) _ _ (E σ) (hr.make C us (ks.zip ws))
    (I2.env0.make C us (ks.zip ws)) (hb.to _ (Value.ref (s.heap.objs.size + 1) :: us) ws I2.kIn n1 (rz.length.symm.trans l2)) r2 hq) fun r s' hq' => ?_))
  cases r with
  | error e => exact hx pins _ _ e s' I2 hq'
  | ok fl =>
    cases fl with
    | ret u =>
      obtain ⟨v, H', I3, rv, ev, q3⟩ := I2.after hq'
      subst ev
      exact ⟨rv, ⟨V.ref (s.heap.objs.size + 1), H', I3, rfl, q3⟩⟩
    | next => exact False.elim hq'
    | brk => exact False.elim hq'
    | cont => exact False.elim hq'
theorem pe_makeS (M : Mk X.K C f) (F : FnOk X.prog X.w X.K X.mg X.base CX k f fd ps sp) (hr : Room (k + 1) X.A) (hg : Gl X x) (hm : X.mg x = some (.ref C)) (hb : Binds X.K fd ps ds) (hd : Vals dvs ds) (hx : ∀ σ, PassesAt CX X σ (E σ))
    (ha : PA X (e :: es) t) (hdb : (x == ("__debug__" : Str)) = false := by decide) (he : starEach (e :: es) X.env = (false, eval e X.env) :: starEach es X.env := by rfl) (hpl : (backTo pos (starEach es X.env)).any (·.1) = false := by rfl) :
    PE X (.Call (.Name x p) (e :: es) [] pos) (tMakeS C sp dvs E t) := by
  refine ⟨fun pins s σ H Q I h => ?_⟩
  refine wpAny_Call_Name_kw (ld_glob I hg hm ?_ hdb)
  refine PySem.W.callWith_K (h₀ := X.base) I.ok.mod.kin M.kp (thn (ha.run pos pins s σ H _ I h) fun us s1 ⟨vs, H1, I1, r, q⟩ => ⟨I1.kIn, ?_⟩) he hpl
  exact run_makeS M F hr hb hd (hx σ) I1 r q
theorem pe_makeKS (M : Mk X.K C f) (F : FnOk X.prog X.w X.K X.mg X.base CX k f fd ps sp) (hr : Room (k + 1) X.A) (hg : Gl X x) (hm : X.mg x = some (.ref C)) (hb : KBn X.K fd ps (n + 1) ks g gV) (hx : ∀ σ, PassesAt CX X σ (E σ)) (ha : PA X (e :: es) t) (hkw : PK X kws tk)
    (hall : (backToKw pos (keywordEach kws X.env)).all (·.1.isSome) = true := by rfl) (hks : (backToKw pos (keywordEach kws X.env)).filterMap (·.1) = ks := by rfl) (hdb : (x == ("__debug__" : Str)) = false := by decide)
    (he : starEach (e :: es) X.env = (false, eval e X.env) :: starEach es X.env := by rfl) (hpl : ((backTo pos (starEach (e :: es) X.env)).any (·.1) || (backToKw pos (keywordEach kws X.env)).any (·.1.isNone)) = false := by rfl) :
    PE X (.Call (.Name x p) (e :: es) kws pos) (tMakeKS C n ks.length sp gV E t tk) := by
  refine ⟨fun pins s σ H Q I h => ?_⟩
  refine wpAny_Call_Name_kw (ld_glob I hg hm ?_ hdb)
  refine PySem.W.callWith_KW (h₀ := X.base) I.ok.mod.kin M.kp hall (thn (ha.run pos pins s σ H _ I h) fun us s1 ⟨vs, H1, I1, r, q⟩ => ?_) hpl he
  refine thn (hkw.run pos pins s1 σ H1 _ I1 q) fun ws s2 ⟨zs, H2, I2, rz, l1, l2, q2⟩ => ⟨I2.kIn, ?_⟩
  rw [hks]
  exact run_makeKS M F hr hb (hx σ) I2 r rz l1 l2 q2
end
/-- what the class of the caught error says -/
structure XisC (K : PySem.W.Frag) (C : Addr) : Prop where
  cl : (PySem.W.clsIn K C).isSome = true
  ga : PySem.W.findIn K (.ref C) "__getattribute__" = some (some (.builtin "BaseException.__getattribute__"))
  gg : PySem.W.findIn K (.ref C) "__getattr__" = some none
  ex : PySem.W.subIn K (.ref C) (.type "BaseException") = some true
  ca : PySem.W.findIn K (.ref C) "__class__" = some (some (.builtin "object.__class__"))
  gt : PySem.W.specialIn K (.builtin "object.__class__") "__get__" = some (some (.builtin "getset_descriptor.__get__"))
  tk : PySem.W.takesIn K (.builtin "object.__class__") = some true
  ob : PySem.W.mroIn K C (.type "object") = some true
section
variable {X : Cx} {a C : Addr} {oe : Obj} {cls : Value} {d : Option Addr} {pn : List (Addr × Obj)} {K : PySem.W.Frag}
/-- isinstance(e, c) of the caught error -/
def rIsEd (K : PySem.W.Frag) (C a : Addr) (cls : Value) (d : Option Addr) : List V → Hp → VK → Prop := fun xs H Q => ∃ (dd : Addr) (fs : List (Str × V)) (c : V) (u : Value) (b : Bool), xs = [.ref a, c] ∧ cls = .ref C ∧ d = some dd ∧ H dd = some (.xd fs) ∧ ClsV c u ∧ PySem.W.kitOne K (.ref C) u = some b ∧ Q (.bl b) H
/-- isinstance(e, (c, ..)) of the caught error -/
def rIsEt (K : PySem.W.Frag) (C a : Addr) (cls : Value) (d : Option Addr) : List V → Hp → VK → Prop := fun xs H Q => ∃ (dd : Addr) (fs : List (Str × V)) (tp : Addr) (cs : List V) (us : List Value) (b : Bool), xs = [.ref a, .ref tp] ∧ cls = .ref C ∧ d = some dd ∧ H dd = some (.xd fs) ∧ H tp = some (.tup cs) ∧
  Paired ClsV cs us ∧ PySem.W.kitAny K (.ref C) us = some b ∧ Q (.bl b) H
theorem exc_inst {pins : List (Addr × Obj)} {σ : St} {H : Hp} {s : Shared} {dd : Addr} {fs : List (Str × V)} (hz : Zc (.ref C) (some dd) oe) (hf : ∃ vs, oe.data = .fields vs) (I : Inv (X.suite a ((a, oe) :: pn)) pins σ H s) (ea : H dd = some (.xd fs)) :
    ∃ od, PySem.W.InstAt s.heap a oe C (some od) := by
  obtain ⟨ha, _⟩ := I.pin (a, oe) (List.mem_append_left _ List.mem_cons_self)
  obtain ⟨vs, hd⟩ := hf
  have hx : ObjOk X.prog X.w H s.heap dd (.xd fs) := I.hok dd _ ea
  obtain ⟨mA, hns, hr⟩ := hx
  obtain ⟨od, ho, hl⟩ := lookIn_ns hns
  exact ⟨od, ha, hz.1, by unfold PySem.W.notCls; rw [hd] <;> rfl, by rw [hz.2]; exact ho⟩
theorem call_isEd (T : XisC K C) (hz : Zc cls d oe) (hf : ∃ vs, oe.data = .fields vs) (eK : X.K = K := by rfl) : CallR (X.suite a ((a, oe) :: pn)) (.builtin "isinstance") (rIsEd K C a cls d) := by
  subst eK
  intro pins s σ H xs us Q I r h
  obtain ⟨dd, fs, c, u, b, rfl, rfl, rfl, ea, k, e, q⟩ := h
  obtain ⟨u1, u2, rfl, r1, r2⟩ := vals2 r
  have e2 := k.eq r2
  subst e2
  obtain rfl : u1 = Value.ref a := r1
  obtain ⟨od, J⟩ := exc_inst hz hf I ea
  exact PySem.W.kia_one (PySem.W.kitx_exc T.cl T.ga T.gg T.ex T.ca T.gt T.tk T.ob) I.kIn J e (fun z => nomatch z) fun tk => ⟨.bl b, H, I.tok tk, rfl, q⟩
theorem call_isEt (T : XisC K C) (hz : Zc cls d oe) (hf : ∃ vs, oe.data = .fields vs) (eK : X.K = K := by rfl) : CallR (X.suite a ((a, oe) :: pn)) (.builtin "isinstance") (rIsEt K C a cls d) := by
  subst eK
  intro pins s σ H xs us Q I r h
  obtain ⟨dd, fs, tp, cs, ws, b, rfl, rfl, rfl, ea, hT, k, e, q⟩ := h
  obtain ⟨u1, u2, rfl, r1, r2⟩ := vals2 r
  cases (show u2 = Value.ref tp from r2)
  obtain rfl : u1 = Value.ref a := r1
  obtain ⟨od, J⟩ := exc_inst hz hf I ea
  obtain ⟨_, its, rv, o, h1, h2, n, h3⟩ := (show ObjOk X.prog X.w H s.heap tp (.tup cs) from I.hok tp _ hT)
  have e3 := ClsV.all k rv
  subst e3
  obtain ⟨oc, od', dt, sl⟩ := o
  simp only at h2 h3
  subst h2 h3
  exact PySem.W.kia_tup (PySem.W.kitx_exc T.cl T.ga T.gg T.ex T.ca T.gt T.tk T.ob) I.kIn J h1 e (fun z => nomatch z) fun tk => ⟨.bl b, H, I.tok tk, rfl, q⟩
theorem take0 {X : Cx} : Takes X (fun _ _ _ _ => False) := fun _ _ x => by
  obtain ⟨a, B, sI, pins, σ, H, cls, d, _, _, _, _, _, _, _, _, w⟩ := x
  exact w.elim
end
end L2

namespace G
open PySem PySem.Spec PyProof.Rows L2
/-- a def that may raise -/
structure CalX (P : Program) (w : World) (K : PySem.W.Frag) (mg : Str → Option Value) (x : Str) (ps : List Str) (k : Nat) (sp : Sp) : Prop where
  ex : ∃ f fd, mg x = some (.ref f) ∧ PySem.W.keepIn K (.ref f) = true ∧ (∀ (s : Shared) (us : List Value), us.length = ps.length → BindsTo s fd ⟨us, []⟩ (ps.zip us)) ∧ ∀ base : Heap, FnOk P w K mg base (L2.CX P w) k f fd ps sp
structure CalIX (P : Program) (w : World) (K : PySem.W.Frag) (mg : Str → Option Value) (C : Addr) (qual : Str) (st : Stmt) (kws : List (Str × V)) (ps : List Str) (k : Nat) (sp : Sp) : Prop where
  ex : ∃ f fd, Mk K C f ∧ FunD K "__init__" qual (defArgs st) (defBody st) (defScope st) [] kws f fd ∧ ∀ base : Heap, FnOk P w K mg base (L2.CX P w) k f fd ps sp
theorem pe_ccS {X : Cx} {x : Str} {ps : List Str} {j k : Nat} {sp : Sp} {p pos : Pos} {e : Expr} {es : List Expr} {t : TA} {E : L2.St → XK} (C : CalX X.prog X.w X.K X.mg x ps j sp) (hr : Room k X.A) (hx : ∀ σ, PassesAt (L2.CX X.prog X.w) X σ (E σ)) (ha : PA X (e :: es) t) (hj : j ≤ k := by decide) (hg : Gl X x := by rfl)
    (hd : (x == ("__debug__" : Str)) = false := by decide) (he : starEach (e :: es) X.env = (false, eval e X.env) :: starEach es X.env := by rfl)
    (hpl : (backTo pos (starEach es X.env)).any (·.1) = false := by rfl) :
    PE X (.Call (.Name x p) (e :: es) [] pos) (tCallS sp E t) := by
  obtain ⟨f, fd, g, kp, b, F⟩ := C.ex
  exact pe_callS (F X.base) (hr.mono hj) hg g kp (fun s us _ hl => by rw [List.append_nil] at hl ⊢; exact b s us hl) hx ha hd he hpl
section
variable {K : PySem.W.Frag} {σ : L2.St} {H : Hp} {Q : VK} {C : Addr} {D : Ends} {t2 : TS} {te : TE} {a dd : Addr} {fs : List (Str × V)}
theorem w_callS {sp : Sp} {E : L2.St → XK} {t : TA} (h : t σ H fun vs H1 => sp vs H1 Q (E σ)) : tCallS sp E t σ H Q := h
theorem w_makeKS {n k : Nat} {sp : Sp} {gV : List V → List V → List V} {E : L2.St → XK} {t tk : TA} (h : t σ H fun vs H1 => tk σ H1 fun zs H2 => vs.length = n ∧ zs.length = k ∧ MakeG C sp (E σ) (fun x => gV (x :: vs) zs) H2 Q) : tMakeKS C n k sp gV E t tk σ H Q := h
theorem w_mkS {sp : Sp} {E : L2.St → XK} {t : TA} {dvs : List V} (h : t σ H fun vs H1 => MakeG C sp (E σ) (fun x => x :: (vs ++ dvs)) H1 Q) : tMakeS C sp dvs E t σ H Q := h
theorem q_raise {y : List Nat} {W : WX} (h : Val te σ H (.str (toS y))) (hl : y.length ≤ 1000000) (k : ∀ d, H d = none → W (.ref C) (some d) σ (upd H d (.xd [(("part" : Str), .str (toS y))]))) :
    tSeq (fun _ σ H => tMkErr C (tCons te tNil) σ H fun cls d H' => W cls d σ H') t2 D σ H :=
  h _ ⟨toS y, rfl, by rw [toS_len]; exact hl, k⟩
theorem q_try {t : TS} (h : t { D with nx := t2 D } σ H) : tSeq t t2 D σ H := h
theorem w_exc {c : Value} {i : Nat} {ts : Addr → Value → Option Addr → TS} {Wout : WX} {d : Option Addr} (e : PySem.W.exmOne K (.ref C) c = some true)
    (k : ∀ a, H a = none → ts a (.ref C) d { nx := fun σ' H' => D.nx (σ'.set i none) H', rt := D.rt, bk := fun σ' H' => D.bk (σ'.set i none) H', ct := fun σ' H' => D.ct (σ'.set i none) H' } (σ.set i (some (.ref a))) H) : WE (wAs K c i ts Wout D) σ (.ref C) d H :=
  ⟨true, e, fun _ a na => k a na, fun z => nomatch z⟩
theorem w_fallX {i : Nat} (h : t2 D (σ.set i none) H) : tNext { nx := fun σ' H' => ({ D with nx := t2 D } : Ends).nx (σ'.set i none) H', rt := ({ D with nx := t2 D } : Ends).rt, bk := fun σ' H' => ({ D with nx := t2 D } : Ends).bk (σ'.set i none) H', ct := fun σ' H' => ({ D with nx := t2 D } : Ends).ct (σ'.set i none) H' } σ H := h
theorem lk_part {v : V} : List.lookup ("part" : Str) [(("part" : Str), v)] = some v := by simp [List.lookup]
theorem val_xf {y : List Nat} (h : Val te σ H (.ref a)) (hd : H dd = some (.xd [(("part" : Str), .str (toS y))])) : Val (tXf a (.ref C) (some dd) C "part" te) σ H (.str (toS y)) := fun Q q =>
  h _ ⟨rfl, rfl, dd, _, _, rfl, hd, lk_part, q⟩
theorem val_isE {c : V} {u : Value} {b : Bool} (h : Val te σ H (.ref a)) (hd : H dd = some (.xd fs)) (k : ClsV c u) (e : PySem.W.kitOne K (.ref C) u = some b) : Val (tCB (rIsEd K C a (.ref C) (some dd)) (tCons te (tCons (tC c) tNil))) σ H (.bl b) := fun Q q =>
  h _ ⟨dd, fs, c, u, b, rfl, rfl, rfl, hd, k, e, q⟩
theorem q_isT {ta : TA} {cs : List V} {us : List Value} {t1 t3 : TS} (h : Val te σ H (.ref a)) (hd : H dd = some (.xd fs)) (hv : VaA ta σ H cs) (k : Paired ClsV cs us) (e : PySem.W.kitAny K (.ref C) us = some false) (hl : cs.length ≤ 100)
    (kk : ∀ H', Chg [] H H' → H' dd = some (.xd fs) → t3 { D with nx := t2 D } σ H') : tSeq (tIfS (tB (tCB (rIsEt K C a (.ref C) (some dd)) (tCons te (tCons (tTup ta) tNil)))) t1 t3) t2 D σ H := by
  refine h _ (hv _ ⟨by rw [sizeLine_eq]; omega, fun p hp => ?_⟩)
  have hne : dd ≠ p := fun z => by rw [z, hp] at hd; cases hd
  have hd' : (upd H p (.tup cs)) dd = some (.xd fs) := by rw [upd_ne hne]; exact hd
  refine ⟨dd, fs, p, cs, us, false, rfl, rfl, rfl, hd', upd_same, k, e, ?_⟩
  exact ⟨false, rfl, kk _ (Chg.lay hp trivial) hd'⟩
/-- one more class -/
theorem cp_cons {cs : List V} {us : List Value} {A : Addr} (h : Paired ClsV cs us) : Paired ClsV (.ref A :: cs) (.ref A :: us) := .cons (.own A) h
end
end G

/-! ### the head: own errors -/
namespace G
open PySem PySem.Spec PyProof.Rows L2
abbrev FnN : Type := Option (Str × Str × Arguments × FuncBody × Scope × Addr × List Str × Addr)
def fnN (K : PySem.W.Frag) (p : Str × Option Str) : FnN := match K.lookup (He.fAd K p) with
  | some ⟨_, _, .func fd, _⟩ => some (fd.name, fd.qualname, fd.params, fd.body, fd.scope, fd.globals, fd.closure.map (·.1), fd.builtins)
  | _ => none
structure ErrD where
  x : Str
  qual : Str
  st : Stmt
def ErrD.val (d : ErrD) : FnN := some ("__init__", d.qual, defArgs d.st, .stmts (defBody d.st), defScope d.st, mainGlobals, ["__class__"], builtinsNs)
def excB (K : PySem.W.Frag) (C : Addr) : Bool := match K.lookup C with
  | some ⟨.type c, _, .cls cd, sl⟩ => decide (c = "type") && (match cd.mro with
    | v :: bm => decide (v = .ref C) && refsVEb bm
    | _ => false) && cd.hasDict && !cd.hasDel && (match sl.toList with
    | [_, _, _, _, some (.builtin i), _] => decide (i = "ValueError.__new__")
    | _ => false)
  | _ => false
where refsVEb (l : List Value) : Bool := PySem.HandSPX.refsVE l
theorem excB_ok {K : PySem.W.Frag} {C : Addr} (h : excB K C = true) : ∃ nm q N bs bm sn sub ab col dd k0 k1 k2 k3 k5, K.lookup C = some (excClassObj nm q C N bs bm true sn sub ab col dd k0 k1 k2 k3 k5 "ValueError.__new__") ∧ PySem.HandSPX.refsVE bm = true := by
  unfold excB at h
  cases e : K.lookup C with
  | none => rw [e] at h; cases h
  | some o =>
    obtain ⟨oc, od, dt, sl⟩ := o
    rw [e] at h
    cases oc with
    | type c =>
      cases dt with
      | cls cd =>
        obtain ⟨h, h5⟩ := He.ba h
        obtain ⟨h, h4⟩ := He.ba h
        obtain ⟨h, h3⟩ := He.ba h
        obtain ⟨h1, h2⟩ := He.ba h
        obtain ⟨nm, bs, mro, ns, qn, hdc, sn, sub, ab, col, hdl⟩ := cd
        have e1 : c = "type" := of_decide_eq_true h1
        subst e1
        cases mro with
        | nil => cases h2
        | cons v bm =>
          obtain ⟨h6, h7⟩ := He.ba h2
          have e6 := of_decide_eq_true h6
          subst e6
          have e3 : hdc = true := h3
          subst e3
          have e4 : hdl = false := by cases hdl with
            | false => rfl
            | true => cases h4
          subst e4
          obtain ⟨sl⟩ := sl
          rcases sl with _ | ⟨k0, _ | ⟨k1, _ | ⟨k2, _ | ⟨k3, _ | ⟨k4, _ | ⟨k5, _ | ⟨k6, _⟩⟩⟩⟩⟩⟩⟩
          all_goals try (cases h5; done)
          all_goals try (cases k4 with | none => cases h5 | some v4 => cases v4 <;> cases h5)
          cases k4 with
          | none => cases h5
          | some v4 =>
            cases v4 with
            | builtin i =>
              have e5 : i = "ValueError.__new__" := of_decide_eq_true h5
              subst e5
              exact ⟨nm, qn, ns, bs, bm, sn, sub, ab, col, od, k0, k1, k2, k3, k5, rfl, h7⟩
            | _ => cases h5
      | _ => cases h
    | _ => cases dt <;> cases h

def valB (v w : Option (Option Value)) : Bool := decide (v = w)
/-- the checks of an own error's class -/
def errC (K : PySem.W.Frag) (C fI : Addr) : Bool :=
  excB K C && (valB (PySem.W.findIn K (.ref C) "__setattr__") (some (some (.builtin "object.__setattr__"))) && (valB (PySem.W.findIn K (.ref C) "__getattribute__") (some (some (.builtin "BaseException.__getattribute__"))) &&
  (valB (PySem.W.findIn K (.ref C) "__getattr__") (some none) && (valB (PySem.W.findIn K (.ref C) "part") (some none) && (valB (PySem.W.findIn K (.ref C) "__init__") (some (some (.ref fI))) &&
  (decide (PySem.W.typeIn K (.ref fI) = some (.type "function")) && (PySem.W.keepIn K (.ref C) && (decide (PySem.W.subIn K (.ref C) (.type "BaseException") = some true) && (decide (PySem.W.subIn K (.ref C) (.type "ValueError") = some true) &&
  (decide (PySem.W.typeIn K (.ref C) = some (.type "type")) && (PySem.W.hasDictIn K C && (decide (PySem.W.mroIn K C (.ref C) = some true) && (valB (PySem.W.ks_superIn K C C "__init__") (some (some (.builtin "ValueError.__init__"))) &&
  (valB (PySem.W.nsIn K cStatics "thirdparty.any") (some none) && ((PySem.W.clsIn K C).isSome && (valB (PySem.W.findIn K (.ref C) "__class__") (some (some (.builtin "object.__class__"))) &&
  (valB (PySem.W.specialIn K (.builtin "object.__class__") "__get__") (some (some (.builtin "getset_descriptor.__get__"))) && (decide (PySem.W.takesIn K (.builtin "object.__class__") = some true) && decide (PySem.W.mroIn K C (.type "object") = some true)))))))))))))))))))
def fileB (file : Str) : Option Value → Bool
  | some (.str f _) => file == f
  | _ => false
/-- the checks of its __init__ -/
def errF (K : PySem.W.Frag) (C fI : Addr) (qual file : Str) : Bool := match K.lookup fI with
  | some ⟨_, _, .func fd, _⟩ => (match fd.defaults, fd.kwdefaults, fd.closure, fd.code with
    | .none, .none, [(_, cc)], .ref cda => PySem.W.codeIn K (.ref cda) qual && ((match K.lookup cda with
      | some ⟨_, _, .fields vs, _⟩ => fileB file vs[2]?
      | _ => false) && (match K.lookup cc with
      | some ⟨_, _, .cell (some v), _⟩ => decide (v = .ref C)
      | _ => false))
    | _, _, _, _ => false)
  | _ => false
def ErrD.ok (K : PySem.W.Frag) (file : Str) (d : ErrD) : Bool := errC K (He.ga K d.x) (He.fAd K (d.x, some "__init__")) && errF K (He.ga K d.x) (He.fAd K (d.x, some "__init__")) d.qual file
theorem errF_ok {K : PySem.W.Frag} {C : Addr} {p : Str × Option Str} {file : Str} {d : ErrD} (e : fnN K p = d.val) (h : errF K C (He.fAd K p) d.qual file = true) :
    ∃ (oc : Value) (od : Option Addr) (doc pm : Value) (an : Option Addr) (cda : Addr) (ct : Value) (cc : Addr) (osl : Array (Option Value)),
    K.lookup (He.fAd K p) = some ⟨oc, od, .func (PySem.W.ksFn "__init__" d.qual (L2.defArgs d.st) (L2.defBody d.st) (L2.defScope d.st) .none .none doc pm an (.ref cda) ct cc), osl⟩ ∧ PySem.W.codeIn K (.ref cda) d.qual = true ∧
    (∃ (ccl : Value) (cdd : Option Addr) (vs : Array Value) (ccs : Array (Option Value)) (file' : Str) (tf : Tok), K.lookup cda = some ⟨ccl, cdd, .fields vs, ccs⟩ ∧ vs[2]? = some (.str file' tf) ∧ (file == file') = true) ∧
    ∃ (cl : Value) (cld : Option Addr) (csl : Array (Option Value)), K.lookup cc = some ⟨cl, cld, .cell (some (.ref C)), csl⟩ := by
  unfold errF at h
  unfold fnN at e
  cases q : K.lookup (He.fAd K p) with
  | none => rw [q] at h; cases h
  | some o =>
    obtain ⟨oc, od, dt, osl⟩ := o
    rw [q] at h e
    cases dt with
    | func fd =>
      obtain ⟨n1, n2, n3, n4, n5, n6, n7, n8, n9, n10, n11, n12, n13, n14, n15⟩ := fd
      have e2 : (some (n1, n2, n3, n4, n5, n6, n7.map (·.1), n15) : FnN) = some (("__init__" : Str), d.qual, defArgs d.st, FuncBody.stmts (defBody d.st), defScope d.st, mainGlobals, [("__class__" : Str)], builtinsNs) := e
      simp only [Option.some.injEq, Prod.mk.injEq] at e2
      obtain ⟨h1, h2, h3, h4, h5, h6, h7, h8⟩ := e2
      subst h1 h2 h3 h4 h5 h6 h8
      cases n8 with
      | none =>
        cases n9 with
        | none =>
          rcases n7 with _ | ⟨⟨nc, cc⟩, _ | ⟨_, _⟩⟩
          · cases h
          · cases n13 with
            | ref cda =>
              have en : nc = ("__class__" : Str) := by
                have z : [nc] = [("__class__" : Str)] := h7
                exact (List.cons.inj z).1
              subst en
              obtain ⟨c1, c2⟩ := He.ba h
              obtain ⟨c3, c4⟩ := He.ba c2
              refine ⟨oc, od, n10, n11, n12, cda, n14, cc, osl, rfl, c1, ?_, ?_⟩
              · cases q2 : K.lookup cda with
                | none => rw [q2] at c3; cases c3
                | some o2 =>
                  obtain ⟨a1, a2, a3, a4⟩ := o2
                  rw [q2] at c3
                  cases a3 with
                  | fields vs =>
                    have c5 : fileB file vs[2]? = true := c3
                    cases q3 : vs[2]? with
                    | none => rw [q3] at c5; cases c5
                    | some v =>
                      rw [q3] at c5
                      cases v with
                      | str f t => exact ⟨a1, a2, vs, a4, f, t, rfl, q3, c5⟩
                      | _ => cases c5
                  | _ => cases c3
              · cases q2 : K.lookup cc with
                | none => rw [q2] at c4; cases c4
                | some o2 =>
                  obtain ⟨a1, a2, a3, a4⟩ := o2
                  rw [q2] at c4
                  cases a3 with
                  | cell v =>
                    cases v with
                    | none => cases c4
                    | some v =>
                      have z : v = .ref C := of_decide_eq_true c4
                      subst z
                      exact ⟨a1, a2, a4, rfl⟩
                  | _ => cases c4
            | _ => cases h
          · cases h
        | _ => cases h
      | _ => cases n9 <;> cases h
    | _ => cases h
/-- the class of an own error, whole -/
structure ErrK (K : PySem.W.Frag) (C : Addr) : Prop where
  xf : XfC K C
  xi : XisC K C
  np : PySem.W.findIn K (.ref C) "part" = some none
  ty : PySem.W.typeIn K (.ref C) = some (.type "type")
theorem err_of {P : Program} {K : PySem.W.Frag} {mg : Str → Option Value} {h : Heap} (X : K.In h) (G : h.Ns mainGlobals mg) {d : ErrD} {file : Str} (e : fnN K (d.x, some "__init__") = d.val) (c : d.ok K file = true) (g : (He.Fa.glo d.x).ok K = true) (s : (He.Fa.free "super").ok K = true)
    (top : (P.main.scope.names.lookup ("super" : Str)).isSome = false) (hf : (P.main.file : Str) = file)
    (shape : ∃ (msg : Str) (r1 r2 p0 p1 p2 p3 p4 p5 p6 p7 q1 q2 q3 q4 : Pos), L2.defArgs d.st = PySem.ErrX.eA r1 r2 ∧ L2.defBody d.st = PySem.ErrX.eB msg p0 p1 p2 p3 p4 p5 p6 p7 q1 q2 q3 q4 ∧ L2.defScope d.st = PySem.ErrX.eS ∧ msg.length ≤ 100 ∧
    ∀ L f cda cc : Addr, ∃ pl : Sem Bool, eval (.Call (.Attribute (.Call (.Name "super" p0) [] [] p1) "__init__" p2) [.BinOp (.Constant (.str msg) 0 p3) .Add (.Name "part" p4) p5] [] p6) (PySem.W.ksEnv d.qual PySem.ErrX.eS L f (.ref cda) cc) = (do
      let ov ← attributeBase (.Call (.Name "super" p0) [] [] p1) "__init__" (PySem.W.ksEnv d.qual PySem.ErrX.eS L f (.ref cda) cc) (eval (.Call (.Name "super" p0) [] [] p1) (PySem.W.ksEnv d.qual PySem.ErrX.eS L f (.ref cda) cc))
      standAt p2.atName
      let (f', first) ← holding [ov] (getMethod ov "__init__" pl)
      callWith p6 f' first (backTo p6 (starEach [.BinOp (.Constant (.str msg) 0 p3) .Add (.Name "part" p4) p5] (PySem.W.ksEnv d.qual PySem.ErrX.eS L f (.ref cda) cc))) [])) :
    PySem.ErrX.ErrTxt P K mg d.x d.qual d.st (He.ga K d.x) (He.fAd K (d.x, some "__init__")) ∧ ErrK K (He.ga K d.x) := by
  obtain ⟨c1, c2⟩ := He.ba c
  obtain ⟨a1, c1⟩ := He.ba c1
  obtain ⟨a2, c1⟩ := He.ba c1
  obtain ⟨a3, c1⟩ := He.ba c1
  obtain ⟨a4, c1⟩ := He.ba c1
  obtain ⟨a5, c1⟩ := He.ba c1
  obtain ⟨a6, c1⟩ := He.ba c1
  obtain ⟨a7, c1⟩ := He.ba c1
  obtain ⟨a8, c1⟩ := He.ba c1
  obtain ⟨a9, c1⟩ := He.ba c1
  obtain ⟨a10, c1⟩ := He.ba c1
  obtain ⟨a11, c1⟩ := He.ba c1
  obtain ⟨a12, c1⟩ := He.ba c1
  obtain ⟨a13, c1⟩ := He.ba c1
  obtain ⟨a14, c1⟩ := He.ba c1
  obtain ⟨a15, c1⟩ := He.ba c1
  obtain ⟨a16, c1⟩ := He.ba c1
  obtain ⟨a17, c1⟩ := He.ba c1
  obtain ⟨a18, c1⟩ := He.ba c1
  obtain ⟨a19, a20⟩ := He.ba c1
  subst hf
  obtain ⟨oc, od, doc, pm, an, cda, ct, cc, osl, ho, hcd, hcode, hcell⟩ := errF_ok e c2
  exact ⟨⟨He.glo_ok X G g, excB_ok a1, of_decide_eq_true a2, of_decide_eq_true a3, of_decide_eq_true a4, of_decide_eq_true a5, of_decide_eq_true a6, of_decide_eq_true a7, a8, of_decide_eq_true a9, of_decide_eq_true a10, of_decide_eq_true a11, a12, of_decide_eq_true a13, of_decide_eq_true a14, of_decide_eq_true a15,
    He.free_ok X G s, top, ⟨oc, od, doc, pm, an, cda, ct, cc, osl, ho, hcd, hcode, hcell⟩, shape⟩,
    ⟨⟨of_decide_eq_true a3, of_decide_eq_true a4, of_decide_eq_true a9, a12⟩, ⟨a16, of_decide_eq_true a3, of_decide_eq_true a4, of_decide_eq_true a9, of_decide_eq_true a17, of_decide_eq_true a18, of_decide_eq_true a19, of_decide_eq_true a20⟩, of_decide_eq_true a5, of_decide_eq_true a11⟩⟩
/-! ### the hook -/
def frX (n : Nat) (g : Addr → Option Obj) : PySem.W.Frag := He.frG g (He.asD g n ++ [cStatics])
abbrev AlX : Type := He.AlD × Bool × List FnN
def obsXG (n : Nat) (fa : List He.Fa) (fn : List He.DefD) (ex : PySem.W.Frag → Bool) (file : Str) (er : List ErrD) (g : Addr → Option Obj) : AlX := (He.obsD fa fn (frX n g), ex (frX n g) && er.all (fun d => d.ok (frX n g) file), er.map fun d => fnN (frX n g) (d.x, some "__init__"))
structure SaysX (fa : List He.Fa) (fn : List He.DefD) (ex : PySem.W.Frag → Bool) (file : Str) (er : List ErrD) (K : PySem.W.Frag) : Prop where
  d : He.SaysD fa fn K
  e : ex K = true
  a : er.all (fun d => d.ok K file) = true
  m : (er.map fun d => fnN K (d.x, some "__init__")) = er.map ErrD.val
def hookX (n : Nat) (fa : List He.Fa) (fn : List He.DefD) (ex : PySem.W.Frag → Bool) (file : Str) (er : List ErrD) : PySem.W.Hook where
  α := AlX
  obs := fun s => obsXG n fa fn ex file er s.heap.get?
  val := fun _ => (He.valD fn, true, er.map ErrD.val)
  says := fun _ h => ∃ K : PySem.W.Frag, K.In h ∧ SaysX fa fn ex file er K
  of := fun _ _ e => ⟨_, He.frG_in, congrArg Prod.fst e, (He.ba (congrArg (fun z : AlX => z.2.1) e)).1, (He.ba (congrArg (fun z : AlX => z.2.1) e)).2, congrArg (fun z : AlX => z.2.2) e⟩
  keeps := fun _ _ _ ⟨K, hK, c⟩ k => ⟨K, PySem.W.Frag.In.keeps hK k, c⟩
theorem obsXG_eq {n : Nat} {fa : List He.Fa} {fn : List He.DefD} {ex : PySem.W.Frag → Bool} {file : Str} {er : List ErrD} {g : Addr → Option Obj} {s : Shared} (h : ∀ a, g a = s.heap.get? a) : obsXG n fa fn ex file er g = (hookX n fa fn ex file er).obs s := by
  have e : g = s.heap.get? := funext h
  rw [e] <;> rfl
theorem SaysX.err {fa : List He.Fa} {fn : List He.DefD} {ex : PySem.W.Frag → Bool} {file : Str} {er : List ErrD} {K : PySem.W.Frag} (c : SaysX fa fn ex file er K) (i : Nat) {d : ErrD} (h : er[i]? = some d := by rfl) : fnN K (d.x, some "__init__") = d.val ∧ d.ok K file = true := by
  refine ⟨?_, List.all_eq_true.mp c.a d (List.mem_of_getElem? h)⟩
  have e2 : (er.map fun d => fnN K (d.x, some "__init__"))[i]? = (er.map ErrD.val)[i]? := by rw [c.m]
  rw [List.getElem?_map, List.getElem?_map, h] at e2
  exact Option.some.inj e2
end G

namespace G
open PySem PySem.Spec PyProof.Rows L2
/-! ### an int or a text -/
def uniV : Int ⊕ List Nat → V
  | .inl i => .int i
  | .inr s => .str (toS s)
def yUni : Ty (Int ⊕ List Nat) where
  rep K H F v d := F = [] ∧ v = uniV d
  keep h k := h
  dom h b m := by rw [h.1] at m; cases m
section
variable {K : PySem.W.Frag} {H : Hp} {F : List Addr} {v : V}
theorem uni_i {i : Int} : yUni.rep K H [] (.int i) (.inl i) := ⟨rfl, rfl⟩
theorem uni_s {s : List Nat} : yUni.rep K H [] (.str (toS s)) (.inr s) := ⟨rfl, rfl⟩
theorem uni_I {d : Int ⊕ List Nat} {y : Int} (r : yUni.rep K H F v d) (h : Mi.asI d = some y) : F = [] ∧ v = .int y := by
  cases d with
  | inl i => cases h; exact r
  | inr s => cases h
theorem uni_S {d : Int ⊕ List Nat} {y : List Nat} (r : yUni.rep K H F v d) (h : Mi.asS d = some y) : F = [] ∧ v = .str (toS y) := by
  cases d with
  | inl i => cases h
  | inr s => cases h; exact r
/-! ### == of None or a text -/
variable {x y : Option (List Nat)} {u : V} {F1 F2 : List Addr} {Q : VK}
theorem opt_cases (r : (yOpt yStr).rep K H F v x) : (x = none ∧ v = .non) ∨ ∃ s, x = some s ∧ v = .str (toS s) := by
  cases x with
  | none => exact .inl ⟨rfl, r.2⟩
  | some s =>
    obtain ⟨_, e⟩ := opt_str r rfl
    exact .inr ⟨s, rfl, e⟩
theorem opt_eq (r : (yOpt yStr).rep K H F1 v x) (q : (yOpt yStr).rep K H F2 u y) : scal v u = true ∧ decide (v = u) = decide (x = y) := by
  rcases opt_cases r with ⟨rfl, rfl⟩ | ⟨s, rfl, rfl⟩
  · rcases opt_cases q with ⟨rfl, rfl⟩ | ⟨t, rfl, rfl⟩
    · exact ⟨rfl, by simp⟩
    · exact ⟨rfl, by simp⟩
  · rcases opt_cases q with ⟨rfl, rfl⟩ | ⟨t, rfl, rfl⟩
    · exact ⟨rfl, by simp⟩
    · refine ⟨rfl, ?_⟩
      by_cases e : s = t
      · subst e; simp
      · have e1 : ¬ (V.str (toS s) = V.str (toS t)) := fun z => e (toS_inj (V.str.inj z))
        have e2 : ¬ (some s = some t) := fun z => e (Option.some.inj z)
        rw [decide_eq_false e1, decide_eq_false e2]
theorem w_eqOS (r : (yOpt yStr).rep K H F1 v x) (q : (yOpt yStr).rep K H F2 u y) (k : Q (.bl (decide (x = y))) H) : rEq v u H Q := by
  obtain ⟨h1, h2⟩ := opt_eq r q
  exact ⟨h1, by rw [h2]; exact k⟩
theorem w_neOS (r : (yOpt yStr).rep K H F1 v x) (q : (yOpt yStr).rep K H F2 u y) (k : Q (.bl (!decide (x = y))) H) : rNe v u H Q := by
  obtain ⟨h1, h2⟩ := opt_eq r q
  exact ⟨h1, by rw [h2]; exact k⟩
end
end G

/-! ### match of a text against texts -/
namespace L2
open PySem PySem.Spec PyProof.Rows
structure PMc (X : Cx) (cs : List MatchCase) (t : Str → TS) : Prop where
  run : ∀ (pins : List (Addr × Obj)) (s : Shared) (σ : St) (H : Hp) (D : Ends) (y : Str) (u : Value) (first : Bool), Inv X pins σ H s → RelV (.str y) u → t y D σ H → wpAny (model X.prog X.w) X.A (matchCases cs X.env u first) (SP X pins D) X.xe s
section
variable {X : Cx} {e : Expr} {te : TE} {pos p1 p2 : Pos} {cs : List MatchCase} {tm tr : Str → TS} {tb : TS} {body : List Stmt} {c : Str} {j : Option Str}
theorem mc_nil : PMc X [] (fun _ => tNext) := ⟨fun _ _ σ H _ _ _ _ I _ h => wpAny_pure ⟨σ, H, I, h⟩⟩
def tCase (c : Str) (tb : TS) (tr : Str → TS) : Str → TS := fun y D σ H => if y = c then tb D σ H else tr y D σ H
theorem mc_cons {k} (hb : PSs X body tb) (hr : PMc X cs tr) : PMc X (⟨.MatchValue (.Constant (.str c) k p1) p2, none, body⟩ :: cs) (tCase c tb tr) := by
  refine ⟨fun pins s σ H D y u first I r h => ?_⟩
  unfold matchCases
  refine wpAny_bind (wpAny_holding ?_)
  unfold matchPattern
  refine wpAny_bind (thn (pe_str.run pins s σ H (fun v H1 => v = .str c ∧ H1 = H) I ⟨rfl, rfl⟩) fun v s1 hv => ?_)
  obtain ⟨x1, H1, I1, rv, e1, e2⟩ := hv
  subst e1 e2
  refine wpAny_bind (wpAny_standAt ?_)
  refine wpAny_bind (thn (op_eq pins s1 σ _ (.str y) (.str c) u v (fun b H2 => b = .bl (decide (V.str y = V.str c)) ∧ H2 = H1) I1 r rv ⟨rfl, rfl, rfl⟩) fun b s2 hb2 => ?_)
  obtain ⟨x2, H2, I2, rb, e3, e4⟩ := hb2
  subst e3 e4
  obtain rfl : b = Value.bool (decide (V.str y = V.str c)) := rb
  refine wpAny_bind (wpAny_truthy_bool ?_)
  by_cases hc : y = c
  · subst hc
    rw [decide_eq_true rfl, if_pos rfl]
    refine wpAny_pure ?_
    have h' : tb D σ H2 := by
      have : tCase y tb tr y D σ H2 := h
      unfold tCase at this
      rw [if_pos rfl] at this
      exact this
    refine wpAny_bind (wpAny_holding (wpAny_pure (wpAny_bind (wpAny_pure ?_))))
    show wpAny _ _ (if true = true then execs body X.env else matchCases cs X.env u false) _ _ _
    rw [if_pos rfl]
    exact hb.run pins s2 σ H2 D I2 h'
  · have hne : ¬ (V.str y = V.str c) := fun z => hc (V.str.inj z)
    rw [decide_eq_false hne, if_neg Bool.false_ne_true]
    refine wpAny_pure ?_
    have h' : tr y D σ H2 := by
      have : tCase c tb tr y D σ H2 := h
      unfold tCase at this
      rw [if_neg hc] at this
      exact this
    exact hr.run pins s2 σ H2 D y u false I2 r h'
def tMatch (te : TE) (tm : Str → TS) : TS := fun D σ H => te σ H fun x H1 => ∃ y, x = .str y ∧ tm y D σ H1
theorem ps_match (he : PE X e te) (hm : PMc X cs tm) : PS X (.Match e cs pos) (tMatch te tm) := by
  refine ⟨fun pins s σ H D I h => ?_⟩
  show wpAny _ _ (do standAt pos; let v ← eval e X.env; matchCases cs X.env v true) _ _ _
  refine wpAny_bind (wpAny_standAt (wpAny_bind (thn (he.run pins s σ H _ I h) fun u s1 hh => ?_)))
  obtain ⟨x, H1, I1, rx, y, rfl, q⟩ := hh
  exact hm.run pins s1 σ H1 D y u true I1 rx q
end
end L2
namespace G
open PySem PySem.Spec PyProof.Rows L2
section
variable {K : PySem.W.Frag} {σ : L2.St} {H : Hp} {F : List Addr} {v : V} {Q : VK} {D : Ends} {t2 tb : TS} {te : TE} {tm tr : Str → TS} {α β : Type} {τ : Ty α} {υ : Ty β}
theorem q_match (h : te σ H fun x H1 => ∃ y, x = .str y ∧ tm y { D with nx := t2 D } σ H1) : tSeq (tMatch te tm) t2 D σ H := h
theorem c_case {c : Str} {l y : List Nat} (ec : c = toS l) (h1 : decide (y = l) = true → tb D σ H) (h2 : decide (y = l) = false → tr (toS y) D σ H) : tCase c tb tr (toS y) D σ H := by
  unfold tCase
  by_cases e : y = l
  · rw [if_pos (by rw [e, ec])]; exact h1 (decide_eq_true e)
  · rw [if_neg (fun z => e (toS_inj (z.trans ec)))]; exact h2 (decide_eq_false e)
/-! ### one kind of two -/
def ySum (τ : Ty α) (υ : Ty β) : Ty (α ⊕ β) where
  rep K H F v d := match d with
    | .inl a => τ.rep K H F v a
    | .inr b => υ.rep K H F v b
  keep {K H H' F v d} h k := by
    cases d with
    | inl a => exact τ.keep h k
    | inr b => exact υ.keep h k
  dom {K H F v d} h b m := by
    cases d with
    | inl a => exact τ.dom h b m
    | inr c => exact υ.dom h b m
theorem sum_l {a : α} (r : τ.rep K H F v a) : (ySum τ υ).rep K H F v (.inl a) := r
theorem sum_r {b : β} (r : υ.rep K H F v b) : (ySum τ υ).rep K H F v (.inr b) := r
theorem sum_L {d : α ⊕ β} {a : α} (r : (ySum τ υ).rep K H F v d) (h : Mi.asL d = some a) : τ.rep K H F v a := by
  cases d with
  | inl x => cases h; exact r
  | inr x => cases h
theorem sum_R {d : α ⊕ β} {b : β} (r : (ySum τ υ).rep K H F v d) (h : Mi.asR d = some b) : υ.rep K H F v b := by
  cases d with
  | inl x => cases h
  | inr x => cases h; exact r
/-! ### a written tuple of things of one kind -/
theorem e_tupl {vs : List V} {xs : List α} (z : vs.length ≤ Mi.big) (r : Paired (fun u x => τ.rep K H [] u x) vs xs) (k : ∀ p H', H p = none → Chg [] H H' → (yTupL τ).rep K H' [] (.ref p) xs → Q (.ref p) H') : TupG vs H Q :=
  ⟨sz z, fun p np => k p _ np (Chg.lay np trivial) ⟨p, vs, rfl, rfl, .inl (.inl upd_same), Paired.mapP r fun u x q => τ.keep q fun b o e _ => by rw [upd_ne (ne_of_none e np)]; exact e⟩⟩
end
end G

namespace L2
open PySem PySem.Spec PyProof.Rows
section
variable {X : Cx} {cs : List MatchCase} {tr : Str → TS} {tb : TS} {body : List Stmt} {c d : Str} {p1 p2 p3 p4 p5 : Pos}
/-- case c | d -/
theorem mc_or {k k2} (hb : PSs X body tb) (hr : PMc X cs tr) : PMc X (⟨.MatchOr [.MatchValue (.Constant (.str c) k p1) p2, .MatchValue (.Constant (.str d) k2 p3) p4] p5, none, body⟩ :: cs) (tCase c tb (tCase d tb tr)) := by
  refine ⟨fun pins s σ H D y u first I r h => ?_⟩
  have step : ∀ (e : Str) (s0 : Shared) (q1 q2 : Pos) (kk : Nat) {Q : Option (List (Str × Value)) → Shared → Prop}, Inv X pins σ H s0 → (∀ s2, Inv X pins σ H s2 → Q (if y = e then some [] else none) s2) → wpAny (model X.prog X.w) X.A (matchPattern (.MatchValue (.Constant (.str e) kk q1) q2) X.env u) Q X.xe s0 := by
    intro e s0 q1 q2 kk Q I0 k0
    unfold matchPattern
    refine wpAny_bind (thn (pe_str.run pins s0 σ H (fun v H1 => v = .str e ∧ H1 = H) I0 ⟨rfl, rfl⟩) fun v s1 hv => ?_)
    obtain ⟨x1, H1, I1, rv, e1, e2⟩ := hv
    subst e1
    rw [e2] at I1
    refine wpAny_bind (wpAny_standAt ?_)
    refine wpAny_bind (thn (op_eq pins s1 σ _ (.str y) (.str e) u v (fun b H2 => b = .bl (decide (V.str y = V.str e)) ∧ H2 = H) I1 r rv ⟨rfl, rfl, rfl⟩) fun b s2 hb2 => ?_)
    obtain ⟨x2, H2, I2, rb, e3, e4⟩ := hb2
    subst e3
    rw [e4] at I2
    obtain rfl : b = Value.bool (decide (V.str y = V.str e)) := rb
    refine wpAny_bind (wpAny_truthy_bool ?_)
    by_cases hc : y = e
    · have hd : V.str y = V.str e := congrArg V.str hc
      rw [decide_eq_true hd, if_pos rfl]
      have := k0 s2 I2
      rw [if_pos hc] at this
      exact wpAny_pure this
    · have hne : ¬ (V.str y = V.str e) := fun z => hc (V.str.inj z)
      rw [decide_eq_false hne, if_neg Bool.false_ne_true]
      have := k0 s2 I2
      rw [if_neg hc] at this
      exact wpAny_pure this
  unfold matchCases
  refine wpAny_bind (wpAny_holding ?_)
  unfold matchPattern
  refine wpAny_bind ?_
  unfold matchFirst
  refine wpAny_bind (step c s p1 p2 k I fun s1 I1 => ?_)
  by_cases hc : y = c
  · rw [if_pos hc]
    refine wpAny_pure (wpAny_pure ?_)
    have h' : tb D σ H := by
      have : tCase c tb (tCase d tb tr) y D σ H := h
      unfold tCase at this
      rw [if_pos hc] at this
      exact this
    refine wpAny_bind (wpAny_holding (wpAny_pure (wpAny_bind (wpAny_pure ?_))))
    show wpAny _ _ (if true = true then execs body X.env else matchCases cs X.env u false) _ _ _
    rw [if_pos rfl]
    exact hb.run pins s1 σ H D I1 h'
  · rw [if_neg hc]
    have h' : tCase d tb tr y D σ H := by
      have : tCase c tb (tCase d tb tr) y D σ H := h
      unfold tCase at this
      rw [if_neg hc] at this
      exact this
    unfold matchFirst
    refine wpAny_bind (step d s1 p3 p4 k2 I1 fun s2 I2 => ?_)
    by_cases hd : y = d
    · rw [if_pos hd]
      refine wpAny_pure (wpAny_pure ?_)
      have h'' : tb D σ H := by
        unfold tCase at h'
        rw [if_pos hd] at h'
        exact h'
      refine wpAny_bind (wpAny_holding (wpAny_pure (wpAny_bind (wpAny_pure ?_))))
      show wpAny _ _ (if true = true then execs body X.env else matchCases cs X.env u false) _ _ _
      rw [if_pos rfl]
      exact hb.run pins s2 σ H D I2 h''
    · rw [if_neg hd]
      have h'' : tr y D σ H := by
        unfold tCase at h'
        rw [if_neg hd] at h'
        exact h'
      unfold matchFirst
      refine wpAny_pure (wpAny_pure ?_)
      exact hr.run pins s2 σ H D y u false I2 r h''
end
end L2

namespace G
open PySem PySem.Spec PyProof.Rows L2
section
variable {K : PySem.W.Frag} {σ : L2.St} {H : Hp} {F F1 F2 : List Addr} {v u : V} {Q : VK} {te ta tb : TE} {α β : Type} {τ : Ty α} {υ : Ty β}
/-! ### str of an int -/
theorem toS_int (i : Int) : ((toString i : String) : Str) = toS (Mi.sInt i) := by
  show Str.ofString (toString i) = toS (Mi.sInt i)
  rw [Str.ofString_eq_toList]; rfl
theorem log_ok {i : Int} (h : i.natAbs < 10 ^ 15) : i.natAbs.log2 < 1920 := by
  by_cases h0 : i.natAbs = 0
  · rw [h0]; decide
  · exact Nat.lt_of_lt_of_le ((Nat.log2_lt h0).mpr (Nat.lt_of_lt_of_le h (by decide : 10 ^ 15 ≤ 2 ^ 50))) (by decide)
theorem sOfI_ok {i : Int} {y : List Nat} (h : Mi.sOfI i = some y) : i.natAbs.log2 < 1920 ∧ y = Mi.sInt i := by
  unfold Mi.sOfI at h
  split at h
  · rename_i hl
    exact ⟨log_ok hl, (Option.some.inj h).symm⟩
  · cases h
def rStrI : List V → Hp → VK → Prop := fun xs H Q => ∃ i, xs = [.int i] ∧ i.natAbs.log2 < 1920 ∧ Q (.str (toString i)) H
theorem cl_strI {X : Cx} : CallR X (.type "str") rStrI := call_str_int
theorem w_strI {i : Int} {y : List Nat} (h : Mi.sOfI i = some y) (k : Q (.str (toS y)) H) : rStrI [.int i] H Q := by
  obtain ⟨h1, rfl⟩ := sOfI_ok h
  exact ⟨i, rfl, h1, by rw [toS_int]; exact k⟩
theorem val_strI {i : Int} {y : List Nat} (h : Mi.sOfI i = some y) (ha : Val ta σ H (.int i)) : Val (tCB rStrI (tCons ta tNil)) σ H (.str (toS y)) := fun Q q => ha _ (w_strI h q)
/-! ### f-strings -/
theorem w_js {ts : List TE} (h : tJs ts (toS []) σ H fun out H1 => Q (.str out) H1) : (fun (σ : L2.St) (H : Hp) (Q : VK) => tJs ts Str.empty σ H fun out H1 => Q (.str out) H1) σ H Q := h
theorem js_nil {acc : List Nat} (k : Q (.str (toS acc)) H) : tJs [] (toS acc) σ H fun out H1 => Q (.str out) H1 := k
theorem js_cons {ts : List TE} {acc : List Nat} {Qs : Str → Hp → Prop} (h : te σ H fun x H1 => ∃ y : Str, x = .str y ∧ (toS acc ++ y).length ≤ sizeLine ∧ tJs ts (toS acc ++ y) σ H1 Qs) : tJs (te :: ts) (toS acc) σ H Qs := h
theorem js_in {ts : List TE} {a b c : List Nat} {Qs : Str → Hp → Prop} (h : Mi.sCat a b = some c) (k : tJs ts (toS c) σ H Qs) : ∃ y : Str, V.str (toS b) = .str y ∧ (toS a ++ y).length ≤ sizeLine ∧ tJs ts (toS a ++ y) σ H Qs := by
  unfold Mi.sCat at h
  split at h
  · rename_i hl
    obtain rfl := Option.some.inj h
    refine ⟨toS b, rfl, ?_, ?_⟩
    · rw [toS_app, toS_len, List.length_append]; exact sz hl
    · rw [toS_app]; exact k
  · cases h
theorem fmt_S {a b : List Nat} (h : Mi.fmtS a = some b) (k : Q (.str (toS b)) H) : (∃ y : Str, V.str (toS a) = .str y ∧ y.length ≤ sizeLine ∧ Q (.str y) H) ∨ ∃ i : Int, V.str (toS a) = .int i ∧ i.natAbs.log2 < 1920 ∧ Q (.str (toString i)) H := by
  unfold Mi.fmtS at h
  split at h
  · rename_i hl
    obtain rfl := Option.some.inj h
    exact .inl ⟨toS a, rfl, by rw [toS_len]; exact sz hl, k⟩
  · cases h
theorem fmt_I {i : Int} {b : List Nat} (h : Mi.sOfI i = some b) (k : Q (.str (toS b)) H) : (∃ y : Str, V.int i = .str y ∧ y.length ≤ sizeLine ∧ Q (.str y) H) ∨ ∃ j : Int, V.int i = .int j ∧ j.natAbs.log2 < 1920 ∧ Q (.str (toString j)) H := by
  obtain ⟨h1, rfl⟩ := sOfI_ok h
  exact .inr ⟨i, rfl, h1, by rw [toS_int]; exact k⟩
/-- what a field makes of an int, a text or a third kind -/
theorem w_fmt (h : te σ H fun x H1 => (∃ y : Str, x = .str y ∧ y.length ≤ sizeLine ∧ Q (.str y) H1) ∨ ∃ i : Int, x = .int i ∧ i.natAbs.log2 < 1920 ∧ Q (.str (toString i)) H1) : tFmt te σ H Q := h
/-! ### [*xs, y] -/
theorem w_star {tr : TA} {Qs : List V → Hp → Prop} (h : te σ H fun x H1 => ∃ p xs, x = V.ref p ∧ (SqT K H1 p xs ∨ SqL K H1 p xs) ∧ tr σ H1 fun ys H2 => Qs (xs ++ ys) H2) : StX.tStar K te tr σ H Qs := h
/-! ### a list of known references -/
def yRf (us : List V) : Ty Unit where
  rep K H F v _ := ∃ p, v = .ref p ∧ F = [p] ∧ H p = some (.lst us)
  keep {K H H' F v d} h k := by
    obtain ⟨p, e, rfl, g⟩ := h
    exact ⟨p, e, rfl, k p _ g (.inl (List.mem_cons_self ..))⟩
  dom {K H F v d} h b m := by
    obtain ⟨p, e, rfl, g⟩ := h
    obtain rfl := List.mem_singleton.mp m
    exact ⟨_, g, fun z => z⟩
theorem val_rf {us : List V} {n : Nat} {x : Unit} (r : (yRf us).rep K H F v x) (h : us[n]? = some u) (ha : Val ta σ H v) (hb : Val tb σ H (.int (n : Int))) : Val (tOp (rIxL K) ta tb) σ H u := by
  obtain ⟨p, rfl, rfl, g⟩ := r
  exact val_op ha hb fun Q q => ⟨p, us, n, u, rfl, rfl, .inl (.inl g), atI_nat h, q⟩
/-- four rows, each by itself -/
theorem own_4 {xs : List α} {a b c d : α} (r : (yOwn τ).rep K H F v xs) (h : Mi.un4 xs = some (a, b, c, d)) :
    ∃ p u0 u1 u2 u3 F0 F1 F2 F3, v = .ref p ∧ (yRf [u0, u1, u2, u3]).rep K H [p] (.ref p) () ∧ τ.rep K H F0 u0 a ∧ τ.rep K H F1 u1 b ∧ τ.rep K H F2 u2 c ∧ τ.rep K H F3 u3 d ∧
      (∀ z ∈ [p], z ∈ F) ∧ Sub F0 F ∧ Sub F1 F ∧ Sub F2 F ∧ Sub F3 F ∧ Dj [p] F0 ∧ Dj [p] F1 ∧ Dj [p] F2 ∧ Dj [p] F3 ∧ Dj F0 F1 ∧ Dj F0 F2 ∧ Dj F0 F3 ∧ Dj F1 F2 ∧ Dj F1 F3 ∧ Dj F2 F3 := by
  have hx : xs = [a, b, c, d] := by
    unfold Mi.un4 at h
    split at h
    · obtain ⟨rfl, rfl, rfl, rfl⟩ := (by simpa using h : _ = a ∧ _ = b ∧ _ = c ∧ _ = d)
      rfl
    · cases h
  subst hx
  obtain ⟨p, vs, Fs, rfl, rfl, nd, g, q⟩ := r
  cases q with
  | @cons u0 F0 _ _ _ _ r0 q =>
    cases q with
    | @cons u1 F1 _ _ _ _ r1 q =>
      cases q with
      | @cons u2 F2 _ _ _ _ r2 q =>
        cases q with
        | @cons u3 F3 _ _ _ _ r3 q =>
          cases q
          have e : (p :: [F0, F1, F2, F3].flatten) = p :: (F0 ++ (F1 ++ (F2 ++ F3))) := by simp
          rw [e] at nd ⊢
          have n1 := List.nodup_cons.mp nd
          obtain ⟨_, n3, n4⟩ := List.nodup_append.mp n1.2
          obtain ⟨_, n6, n7⟩ := List.nodup_append.mp n3
          obtain ⟨_, _, n10⟩ := List.nodup_append.mp n6
          have hp := n1.1
          simp only [List.mem_append, not_or] at hp
          refine ⟨p, u0, u1, u2, u3, F0, F1, F2, F3, rfl, ⟨p, rfl, rfl, g⟩, r0, r1, r2, r3, fun z hz => ?_, fun z hz => ?_, fun z hz => ?_, fun z hz => ?_, fun z hz => ?_, fun z hz hn => ?_, fun z hz hn => ?_, fun z hz hn => ?_, fun z hz hn => ?_, fun z hz hn => ?_, fun z hz hn => ?_, fun z hz hn => ?_, fun z hz hn => ?_, fun z hz hn => ?_, fun z hz hn => ?_⟩
          · rw [List.mem_singleton.mp hz]; exact List.mem_cons_self ..
          · simp [hz]
          · simp [hz]
          · simp [hz]
          · simp [hz]
          · rw [List.mem_singleton.mp hz] at hn; exact hp.1 hn
          · rw [List.mem_singleton.mp hz] at hn; exact hp.2.1 hn
          · rw [List.mem_singleton.mp hz] at hn; exact hp.2.2.1 hn
          · rw [List.mem_singleton.mp hz] at hn; exact hp.2.2.2 hn
          · exact n4 z hz z (by simp [hn]) rfl
          · exact n4 z hz z (by simp [hn]) rfl
          · exact n4 z hz z (by simp [hn]) rfl
          · exact n7 z hz z (by simp [hn]) rfl
          · exact n7 z hz z (by simp [hn]) rfl
          · exact n10 z hz z hn rfl
/-! ### an int or a text: isinstance, == -/
theorem sum_val {d : Int ⊕ List Nat} (r : (ySum yInt yStr).rep K H F v d) : (∃ i, d = .inl i ∧ v = .int i) ∨ ∃ s, d = .inr s ∧ v = .str (toS s) := by
  cases d with
  | inl i =>
    obtain ⟨_, e⟩ := (show yInt.rep K H F v i from r)
    exact .inl ⟨i, rfl, e⟩
  | inr s =>
    obtain ⟨_, e⟩ := (show yStr.rep K H F v s from r)
    exact .inr ⟨s, rfl, e⟩
theorem nn_sum {d : Int ⊕ List Nat} (r : (ySum yInt yStr).rep K H F v d) : v ≠ .non := by
  rcases sum_val r with ⟨i, _, rfl⟩ | ⟨s, _, rfl⟩ <;> exact fun z => nomatch z
theorem val_isiU {m : String} {b1 b2 : Bool} {d : Int ⊕ List Nat} (r : (ySum yInt yStr).rep K H F v d) (ha : Val ta σ H v) (h1 : kitB "int" m = some b1) (h2 : kitB "str" m = some b2) : Val (tCB (rIsi K) (tCons ta (tCons (tC (.ty m)) tNil))) σ H (.bl (if Mi.isL d = true then b1 else b2)) := by
  rcases sum_val r with ⟨i, rfl, rfl⟩ | ⟨s, rfl, rfl⟩
  · exact val_isi ha ty_int h1
  · exact val_isi ha ty_str h2
theorem sum_eq {x y : Int ⊕ List Nat} (r : (ySum yInt yStr).rep K H F1 v x) (q : (ySum yInt yStr).rep K H F2 u y) : scal v u = true ∧ decide (v = u) = decide (x = y) := by
  rcases sum_val r with ⟨i, rfl, rfl⟩ | ⟨s, rfl, rfl⟩
  · rcases sum_val q with ⟨j, rfl, rfl⟩ | ⟨t, rfl, rfl⟩
    · refine ⟨rfl, ?_⟩
      by_cases e : i = j
      · subst e; simp
      · rw [decide_eq_false (fun z => e (V.int.inj z)), decide_eq_false (fun z => e (Sum.inl.inj z))]
    · exact ⟨rfl, by simp⟩
  · rcases sum_val q with ⟨j, rfl, rfl⟩ | ⟨t, rfl, rfl⟩
    · exact ⟨rfl, by simp⟩
    · refine ⟨rfl, ?_⟩
      by_cases e : s = t
      · subst e; simp
      · rw [decide_eq_false (fun z => e (toS_inj (V.str.inj z))), decide_eq_false (fun z => e (Sum.inr.inj z))]
theorem val_eqU {x y : Int ⊕ List Nat} (r : (ySum yInt yStr).rep K H F1 v x) (q : (ySum yInt yStr).rep K H F2 u y) (ha : Val ta σ H v) (hb : Val tb σ H u) : Val (tOp rEq ta tb) σ H (.bl (decide (x = y))) := by
  obtain ⟨h1, h2⟩ := sum_eq r q
  exact val_op ha hb fun Q k => ⟨h1, by rw [h2]; exact k⟩
theorem w_eqU {x y : Int ⊕ List Nat} (r : (ySum yInt yStr).rep K H F1 v x) (q : (ySum yInt yStr).rep K H F2 u y) (k : Q (.bl (decide (x = y))) H) : rEq v u H Q := by
  obtain ⟨h1, h2⟩ := sum_eq r q
  exact ⟨h1, by rw [h2]; exact k⟩
/-! ### the same things under another kind -/
theorem lst_as {xs : List α} (f : α → β) (h : ∀ {u x}, τ.rep K H [] u x → υ.rep K H [] u (f x)) (r : (yLst τ).rep K H F v xs) : (yLst υ).rep K H F v (xs.map f) := by
  obtain ⟨a, vs, e, f', g, q⟩ := r
  refine ⟨a, vs, e, f', g, ?_⟩
  clear g
  induction q with
  | nil => exact .nil
  | cons h1 _ ih => exact .cons (h h1) ih
theorem pair_as {x : List Nat × Int} (r : (yTup (sCons yStr (sOne yInt))).rep K H F v x) : (yTupL (ySum yInt yStr)).rep K H [] v [.inr x.1, .inl x.2] := by
  obtain ⟨a, vs, rfl, s, w, ws, F1, F2, rfl, rfl, ⟨e1, rfl⟩, z, rfl, ⟨e2, rfl⟩⟩ := r
  exact ⟨a, _, rfl, rfl, s, .cons ⟨rfl, rfl⟩ (.cons ⟨rfl, rfl⟩ .nil)⟩
theorem fmt_U {d : Int ⊕ List Nat ⊕ α} {b : List Nat} (r : (ySum yInt (ySum yStr τ)).rep K H F v d) (h : Mi.fmtU d = some b) (k : Q (.str (toS b)) H) : (∃ y : Str, v = .str y ∧ y.length ≤ sizeLine ∧ Q (.str y) H) ∨ ∃ i : Int, v = .int i ∧ i.natAbs.log2 < 1920 ∧ Q (.str (toString i)) H := by
  cases d with
  | inl i =>
    obtain ⟨_, rfl⟩ := (show yInt.rep K H F v i from r)
    exact fmt_I h k
  | inr d =>
    cases d with
    | inl s =>
      obtain ⟨_, rfl⟩ := (show yStr.rep K H F v s from r)
      exact fmt_S h k
    | inr z => cases h
/-! ### [*texts, text] -/
theorem star_L {xs : List (List Nat)} (r : (yLst yStr).rep K H F v xs) : ∃ p, v = .ref p ∧ SqL K H p ((xs.map toS).map V.str) := by
  obtain ⟨a, vs, rfl, _, g, q⟩ := r
  obtain rfl := strs_mk q
  exact ⟨a, rfl, .inl (.inl g)⟩
theorem e_starS {xs ys : List (List Nat)} {y : List Nat} (h : Mi.app xs y = some ys) (k : ∀ p H', H p = none → Chg [] H H' → (yLst yStr).rep K H' [p] (.ref p) ys → Q (.ref p) H') : LstG ((xs.map toS).map V.str ++ [.str (toS y)]) H Q := by
  unfold Mi.app at h
  split at h
  · rename_i hl
    obtain rfl := Option.some.inj h
    refine ⟨?_, fun p np => k p _ np (Chg.lay np trivial) ⟨p, _, rfl, rfl, upd_same, ?_⟩⟩
    · rw [List.length_append, List.length_map, List.length_map]; exact sz (Nat.succ_le_of_lt hl)
    · have gen : ∀ zs : List (List Nat), Paired (fun u x => yStr.rep K (upd H p (.lst ((xs.map toS).map V.str ++ [.str (toS y)]))) [] u x) ((zs.map toS).map V.str ++ [.str (toS y)]) (zs ++ [y]) := by
        intro zs
        induction zs with
        | nil => exact .cons ⟨rfl, rfl⟩ .nil
        | cons z zs ih => exact .cons ⟨rfl, rfl⟩ ih
      exact gen xs
  · cases h
theorem val_eqv {b c : Bool} (e : b = c) (h : Val ta σ H (.bl b)) : Val ta σ H (.bl c) := e ▸ h
theorem ite_ff (p : Bool) : (if p = true then false else false) = false := by cases p <;> rfl
theorem js_fS {ts : List TE} {acc b c : List Nat} {Qs : Str → Hp → Prop} {a : List Nat} (h1 : Mi.fmtS a = some b) (h2 : Mi.sCat acc b = some c) (k : tJs ts (toS c) σ H Qs) :
    (∃ y : Str, V.str (toS a) = .str y ∧ y.length ≤ sizeLine ∧ ∃ z : Str, V.str y = .str z ∧ (toS acc ++ z).length ≤ sizeLine ∧ tJs ts (toS acc ++ z) σ H Qs) ∨ ∃ i : Int, V.str (toS a) = .int i ∧ i.natAbs.log2 < 1920 ∧ ∃ z : Str, V.str (toString i) = .str z ∧ (toS acc ++ z).length ≤ sizeLine ∧ tJs ts (toS acc ++ z) σ H Qs :=
  fmt_S (Q := fun x H1 => ∃ z : Str, x = .str z ∧ (toS acc ++ z).length ≤ sizeLine ∧ tJs ts (toS acc ++ z) σ H1 Qs) h1 (js_in h2 k)
theorem js_fI {ts : List TE} {acc b c : List Nat} {Qs : Str → Hp → Prop} {j : Int} (h1 : Mi.sOfI j = some b) (h2 : Mi.sCat acc b = some c) (k : tJs ts (toS c) σ H Qs) :
    (∃ y : Str, V.int j = .str y ∧ y.length ≤ sizeLine ∧ ∃ z : Str, V.str y = .str z ∧ (toS acc ++ z).length ≤ sizeLine ∧ tJs ts (toS acc ++ z) σ H Qs) ∨ ∃ i : Int, V.int j = .int i ∧ i.natAbs.log2 < 1920 ∧ ∃ z : Str, V.str (toString i) = .str z ∧ (toS acc ++ z).length ≤ sizeLine ∧ tJs ts (toS acc ++ z) σ H Qs :=
  fmt_I (Q := fun x H1 => ∃ z : Str, x = .str z ∧ (toS acc ++ z).length ≤ sizeLine ∧ tJs ts (toS acc ++ z) σ H1 Qs) h1 (js_in h2 k)
theorem js_fU {ts : List TE} {acc b c : List Nat} {Qs : Str → Hp → Prop} {d : Int ⊕ List Nat ⊕ α} (r : (ySum yInt (ySum yStr τ)).rep K H F v d) (h1 : Mi.fmtU d = some b) (h2 : Mi.sCat acc b = some c) (k : tJs ts (toS c) σ H Qs) :
    (∃ y : Str, v = .str y ∧ y.length ≤ sizeLine ∧ ∃ z : Str, V.str y = .str z ∧ (toS acc ++ z).length ≤ sizeLine ∧ tJs ts (toS acc ++ z) σ H Qs) ∨ ∃ i : Int, v = .int i ∧ i.natAbs.log2 < 1920 ∧ ∃ z : Str, V.str (toString i) = .str z ∧ (toS acc ++ z).length ≤ sizeLine ∧ tJs ts (toS acc ++ z) σ H Qs :=
  fmt_U (Q := fun x H1 => ∃ z : Str, x = .str z ∧ (toS acc ++ z).length ≤ sizeLine ∧ tJs ts (toS acc ++ z) σ H1 Qs) r h1 (js_in h2 k)
end
end G

/-! ### match of a tuple against sequences that begin with a text -/
namespace L2
open PySem PySem.Spec PyProof.Rows
structure PMt (X : Cx) (cs : List MatchCase) (t : V → TS) : Prop where
  run : ∀ (pins : List (Addr × Obj)) (s : Shared) (σ : St) (H : Hp) (D : Ends) (x : V) (u : Value) (first : Bool), Inv X pins σ H s → RelV x u → t x D σ H → wpAny (model X.prog X.w) X.A (matchCases cs X.env u first) (SP X pins D) X.xe s
/-- the slots is get the values ys, one by one -/
def putAll : St → List Nat → List V → St
  | σ, i :: is, y :: ys => putAll (σ.set i (some y)) is ys
  | σ, _, _ => σ
def patN (ns : List (Str × Pos)) : List Pattern := ns.map fun q => .MatchAs none (some q.1) q.2
section
variable {X : Cx} {cs : List MatchCase} {tr : V → TS} {tb : TS} {body : List Stmt} {c : Str} {p1 p2 p3 pos : Pos} {e : Expr} {te : TE} {tm : V → TS}
theorem mt_nil : PMt X [] (fun _ => tNext) := ⟨fun _ _ σ H _ _ _ _ I _ h => wpAny_pure ⟨σ, H, I, h⟩⟩
theorem each_as {M : Model} {A : Around} {E : Value → Shared → Prop} {env : Env} {s : Shared} : ∀ (ns : List (Str × Pos)) (vs : List Value) {Q : Option (List (Str × Value)) → Shared → Prop}, ns.length = vs.length → Q (some ((ns.map (·.1)).zip vs)) s → wpAny M A (matchEach (patN ns) env vs) Q E s
  | [], [], Q, _, h => by
    show wpAny M A (matchEach [] env []) Q E s
    unfold matchEach
    exact wpAny_pure h
  | [], _ :: _, _, hl, _ => by cases hl
  | _ :: _, [], _, hl, _ => by cases hl
  | q :: ns, v :: vs, Q, hl, h => by
    show wpAny M A (matchEach (.MatchAs none (some q.1) q.2 :: patN ns) env (v :: vs)) Q E s
    unfold matchEach
    refine wpAny_bind (wpAny_holding ?_)
    unfold matchPattern
    refine wpAny_pure ?_
    refine wpAny_bind (wpAny_holding (each_as ns vs (by simpa using hl) (wpAny_pure h)))
theorem pr_len {α β : Type} {R : α → β → Prop} {l : List α} {m : List β} (h : Paired R l m) : l.length = m.length := by
  induction h with
  | nil => rfl
  | cons _ _ ih => rw [List.length_cons, List.length_cons, ih]
theorem put_all {pins : List (Addr × Obj)} {H : Hp} {E : Value → Shared → Prop} (hN : X.N.Nodup) {ns : List (Str × Pos)} {is : List Nat} (hp : Paired (fun q i => X.N[i]? = some q.1 ∧ X.env.scope.names.lookup q.1 = some .local) ns is) :
    ∀ {ys : List V} {us : List Value} {σ : St} {s : Shared} {Q : Unit → Shared → Prop}, Vals ys us → ns.length = us.length → Inv X pins σ H s →
    (∀ s', Inv X pins (putAll σ is ys) H s' → Q () s') → wpAny (model X.prog X.w) X.A (assignInOrder (((ns.map (·.1)).zip us).map fun (n, _) => bindName X.env n) (((ns.map (·.1)).zip us).map (·.2))) Q E s := by
  induction hp with
  | nil =>
    intro ys us σ s Q rv hl I k
    have hu : us = [] := List.length_eq_zero_iff.mp hl.symm
    subst hu
    have hy : ys = [] := List.length_eq_zero_iff.mp rv.length
    subst hy
    exact assignInOrder_nil (k s I)
  | cons h1 _ ih =>
    intro ys us σ s Q rv hl I k
    cases rv with
    | nil => cases hl
    | cons r rs =>
      refine assignInOrder_cons (wpAny_bindName (store_ok I hN h1.1 (.inl h1.2) r (fun s1 I1 => ?_) (.inr h1.2)))
      exact ih rs (by simpa using hl) I1 k
/-- case ['c', n1, n2, ..] -/
def tSeqC (K : PySem.W.Frag) (c : Str) (is : List Nat) (tb : TS) (tr : V → TS) : V → TS := fun x D σ H => ∃ a xs, x = .ref a ∧ SqT K H a xs ∧ ((xs.length ≠ is.length + 1 ∧ tr x D σ H) ∨ ∃ w ys, xs = .str w :: ys ∧ ys.length = is.length ∧ ((w = c ∧ tb D (putAll σ is ys) H) ∨ (w ≠ c ∧ tr x D σ H)))
theorem mt_cons {k} {ns : List (Str × Pos)} {is : List Nat} (hc : X.calm = true) (hN : X.N.Nodup) (hp : Paired (fun q i => X.N[i]? = some q.1 ∧ X.env.scope.names.lookup q.1 = some .local) ns is) (hb : PSs X body tb) (hr : PMt X cs tr)
    (hstar : (Pattern.MatchValue (.Constant (.str c) k p1) p2 :: patN ns).findIdx? (·.isStar) = none) (hwild : ((Pattern.MatchValue (.Constant (.str c) k p1) p2 :: patN ns).all fun p => p.isWildcard || (p.isStar && p.names.isEmpty)) = false) :
    PMt X (⟨.MatchSequence (.MatchValue (.Constant (.str c) k p1) p2 :: patN ns) p3, none, body⟩ :: cs) (tSeqC X.K c is tb tr) := by
  refine ⟨fun pins s σ H D x u first I r h => ?_⟩
  obtain ⟨a, xs, rfl, sq, h⟩ := h
  obtain rfl : u = Value.ref a := r
  obtain ⟨its, rv, ht, hz⟩ := I.tuple sq
  have hlen : its.length = xs.length := rv.length.symm
  have hni : ns.length = is.length := pr_len hp
  have hsz : its.toArray.size = xs.length := by simpa using hlen
  have hfit : (its.toArray.size : Int) < 2 ^ 63 := by
    rw [hsz]
    have := hz
    rw [sizeLine_eq] at this
    omega
  have hpl : (Pattern.MatchValue (.Constant (.str c) k p1) p2 :: patN ns).length = is.length + 1 := by
    simp [patN, hni]
  unfold matchCases
  refine wpAny_bind (wpAny_holding ?_)
  rcases h with ⟨hne, h⟩ | ⟨w, ys, hx, hyl, h⟩
  · refine matchSeq_tuple_miss ht hfit (by rw [hsz, hpl]; exact hne) ?_ hstar hwild
    exact hr.run pins _ σ H D (.ref a) (.ref a) false (I.tok _) rfl h
  · subst hx
    cases rv with
    | @cons _ u0 _ us r0 rs =>
      have hl2 : ((u0 :: us).toArray).size = (Pattern.MatchValue (.Constant (.str c) k p1) p2 :: patN ns).length := by
        rw [hpl]; simp [← rs.length, hyl]
      refine matchSeq_tuple_hit ht hfit hl2 ?_ hstar hwild
      rw [← hl2]
      have I0 : Inv X pins σ H { s with toks := s.toks + 1 + 1 } := I.tok _
      refine unpackItems_tuple (s := { s with toks := s.toks + 1 + 1 }) (I.ok.hd hc) ht fun h' hx' => ?_
      have I1 : Inv X pins σ H { s with heap := h', toks := s.toks + 1 + 1 } := I.kept (h' := h') (t' := s.toks + 1 + 1) fun b o eb => hx' b o (Nat.ne_of_lt (Heap.lt_size eb)) eb
      show wpAny _ _ (matchEach (.MatchValue (.Constant (.str c) k p1) p2 :: patN ns) X.env (u0 :: us)) _ _ _
      unfold matchEach
      refine wpAny_bind (wpAny_holding ?_)
      unfold matchPattern
      refine wpAny_bind (thn (pe_str.run pins _ σ H (fun v H1 => v = .str c ∧ H1 = H) I1 ⟨rfl, rfl⟩) fun v s1 hv => ?_)
      obtain ⟨x1, H1, I2, rv1, e1, e2⟩ := hv
      subst e1
      rw [e2] at I2
      refine wpAny_bind (wpAny_standAt ?_)
      refine wpAny_bind (thn (op_eq pins s1 σ _ (.str w) (.str c) u0 v (fun b H2 => b = .bl (decide (V.str w = V.str c)) ∧ H2 = H) I2 r0 rv1 ⟨rfl, rfl, rfl⟩) fun b s2 hb2 => ?_)
      obtain ⟨x2, H2, I3, rb, e3, e4⟩ := hb2
      subst e3
      rw [e4] at I3
      obtain rfl : b = Value.bool (decide (V.str w = V.str c)) := rb
      refine wpAny_bind (wpAny_truthy_bool ?_)
      have hnu : ns.length = us.length := by rw [hni, ← hyl]; exact rs.length
      rcases h with ⟨hw, h⟩ | ⟨hw, h⟩
      · have hd : V.str w = V.str c := congrArg V.str hw
        rw [decide_eq_true hd, if_pos rfl]
        refine wpAny_pure ?_
        refine wpAny_bind (wpAny_holding (each_as ns us hnu (wpAny_pure ?_)))
        show wpAny _ _ (do
          holding _ (assignInOrder ((([] ++ (ns.map (·.1)).zip us) : List (Str × Value)).map fun (n, _) => bindName X.env n) ((([] ++ (ns.map (·.1)).zip us) : List (Str × Value)).map (·.2)))
          let ok ← pure true
          if ok then execs body X.env else matchCases cs X.env (.ref a) false) _ _ _
        rw [List.nil_append]
        refine wpAny_bind (wpAny_holding (put_all hN hp rs hnu I3 fun s3 I4 => wpAny_bind (wpAny_pure ?_)))
        show wpAny _ _ (if true = true then execs body X.env else matchCases cs X.env (.ref a) false) _ _ _
        rw [if_pos rfl]
        exact hb.run pins s3 _ H D I4 h
      · have hne : ¬ (V.str w = V.str c) := fun z => hw (V.str.inj z)
        rw [decide_eq_false hne, if_neg Bool.false_ne_true]
        refine wpAny_pure (wpAny_pure ?_)
        exact hr.run pins s2 σ H D (.ref a) (.ref a) false I3 rfl h
def nsOf : List Pattern → List (Str × Pos)
  | .MatchAs none (some n) p :: ps => (n, p) :: nsOf ps
  | _ => []
theorem mt_seq {k} {ps : List Pattern} {is : List Nat} (hps : ps = patN (nsOf ps)) (hc : X.calm = true) (hN : X.N.Nodup) (hp : Paired (fun q i => X.N[i]? = some q.1 ∧ X.env.scope.names.lookup q.1 = some .local) (nsOf ps) is) (hb : PSs X body tb) (hr : PMt X cs tr)
    (hstar : (Pattern.MatchValue (.Constant (.str c) k p1) p2 :: ps).findIdx? (·.isStar) = none) (hwild : ((Pattern.MatchValue (.Constant (.str c) k p1) p2 :: ps).all fun p => p.isWildcard || (p.isStar && p.names.isEmpty)) = false) :
    PMt X (⟨.MatchSequence (.MatchValue (.Constant (.str c) k p1) p2 :: ps) p3, none, body⟩ :: cs) (tSeqC X.K c is tb tr) := by
  have h := mt_cons (k := k) (c := c) (p1 := p1) (p2 := p2) (p3 := p3) (ns := nsOf ps) hc hN hp hb hr (by rw [← hps]; exact hstar) (by rw [← hps]; exact hwild)
  rw [← hps] at h
  exact h
def tMatchT (te : TE) (tm : V → TS) : TS := fun D σ H => te σ H fun x H1 => tm x D σ H1
theorem ps_matchT (he : PE X e te) (hm : PMt X cs tm) : PS X (.Match e cs pos) (tMatchT te tm) := by
  refine ⟨fun pins s σ H D I h => ?_⟩
  show wpAny _ _ (do standAt pos; let v ← eval e X.env; matchCases cs X.env v true) _ _ _
  refine wpAny_bind (wpAny_standAt (wpAny_bind (thn (he.run pins s σ H _ I h) fun u s1 hh => ?_)))
  obtain ⟨x, H1, I1, rx, q⟩ := hh
  exact hm.run pins s1 σ H1 D x u true I1 rx q
end
end L2

namespace G
open PySem PySem.Spec PyProof.Rows L2
section
variable {K : PySem.W.Frag} {σ : L2.St} {H : Hp} {F F1 F2 : List Addr} {v u : V} {Q : VK} {D : Ends} {t2 tb : TS} {te ta tc : TE} {tm tr : V → TS} {α : Type} {τ : Ty α}
abbrev y5 : Ty Mi.U5 := ySum yInt (ySum yStr (ySum yBool (ySum (yTupL yInt) (yTupL yBool))))
abbrev y2 : Ty (Int ⊕ Bool) := ySum yInt yBool
theorem s5_cases {d : Mi.U5} (r : y5.rep K H F v d) : (∃ i, d = .inl i ∧ v = .int i) ∨ (∃ s, d = .inr (.inl s) ∧ v = .str (toS s)) ∨ (∃ b, d = .inr (.inr (.inl b)) ∧ v = .bl b) ∨ (∃ xs, d = .inr (.inr (.inr (.inl xs))) ∧ (yTupL yInt).rep K H F v xs) ∨ ∃ xs, d = .inr (.inr (.inr (.inr xs))) ∧ (yTupL yBool).rep K H F v xs := by
  rcases d with i | s | b | xs | xs
  · obtain ⟨_, e⟩ := (show yInt.rep K H F v i from r)
    exact .inl ⟨i, rfl, e⟩
  · obtain ⟨_, e⟩ := (show yStr.rep K H F v s from r)
    exact .inr (.inl ⟨s, rfl, e⟩)
  · obtain ⟨_, e⟩ := (show yBool.rep K H F v b from r)
    exact .inr (.inr (.inl ⟨b, rfl, e⟩))
  · exact .inr (.inr (.inr (.inl ⟨xs, rfl, r⟩)))
  · exact .inr (.inr (.inr (.inr ⟨xs, rfl, r⟩)))
theorem s2_cases {d : Int ⊕ Bool} (r : y2.rep K H F v d) : (∃ i, d = .inl i ∧ v = .int i) ∨ ∃ b, d = .inr b ∧ v = .bl b := by
  rcases d with i | b
  · obtain ⟨_, e⟩ := (show yInt.rep K H F v i from r)
    exact .inl ⟨i, rfl, e⟩
  · obtain ⟨_, e⟩ := (show yBool.rep K H F v b from r)
    exact .inr ⟨b, rfl, e⟩
theorem nn_5 {d : Mi.U5} (r : y5.rep K H F v d) : v ≠ .non := by
  rcases s5_cases r with ⟨_, _, rfl⟩ | ⟨_, _, rfl⟩ | ⟨_, _, rfl⟩ | ⟨_, _, r⟩ | ⟨_, _, r⟩
  · exact fun z => nomatch z
  · exact fun z => nomatch z
  · exact fun z => nomatch z
  · exact nn_tupl r
  · exact nn_tupl r
theorem nn_2 {d : Int ⊕ Bool} (r : y2.rep K H F v d) : v ≠ .non := by
  rcases s2_cases r with ⟨_, _, rfl⟩ | ⟨_, _, rfl⟩ <;> exact fun z => nomatch z
theorem val_isi5 {m : String} {b1 b2 b3 b4 : Bool} {d : Mi.U5} (r : y5.rep K H F v d) (ha : Val ta σ H v) (h1 : kitB "int" m = some b1) (h2 : kitB "str" m = some b2) (h3 : kitB "bool" m = some b3) (h4 : kitB "tuple" m = some b4) :
    Val (tCB (rIsi K) (tCons ta (tCons (tC (.ty m)) tNil))) σ H (.bl (Mi.isi5 b1 b2 b3 b4 d)) := by
  rcases s5_cases r with ⟨_, rfl, rfl⟩ | ⟨_, rfl, rfl⟩ | ⟨_, rfl, rfl⟩ | ⟨_, rfl, r⟩ | ⟨_, rfl, r⟩
  · exact val_isi ha ty_int h1
  · exact val_isi ha ty_str h2
  · exact val_isi ha ty_bl h3
  · exact val_isi ha (ty_tupl r) h4
  · exact val_isi ha (ty_tupl r) h4
theorem val_isi2 {m : String} {b1 b2 : Bool} {d : Int ⊕ Bool} (r : y2.rep K H F v d) (ha : Val ta σ H v) (h1 : kitB "int" m = some b1) (h2 : kitB "bool" m = some b2) : Val (tCB (rIsi K) (tCons ta (tCons (tC (.ty m)) tNil))) σ H (.bl (Mi.isi2 b1 b2 d)) := by
  rcases s2_cases r with ⟨_, rfl, rfl⟩ | ⟨_, rfl, rfl⟩
  · exact val_isi ha ty_int h1
  · exact val_isi ha ty_bl h2
theorem isi5_ff (d : Mi.U5) : Mi.isi5 false false false false d = false := by rcases d with _ | _ | _ | _ | _ <;> rfl
theorem isi2_ff (d : Int ⊕ Bool) : Mi.isi2 false false d = false := by rcases d with _ | _ <;> rfl
theorem dInt {i j : Int} : decide (V.int i = V.int j) = decide (i = j) := by
  by_cases e : i = j
  · subst e; simp
  · rw [decide_eq_false (fun z => e (V.int.inj z)), decide_eq_false e]
theorem dBl {i j : Bool} : decide (V.bl i = V.bl j) = decide (i = j) := by
  by_cases e : i = j
  · subst e; simp
  · rw [decide_eq_false (fun z => e (V.bl.inj z)), decide_eq_false e]
theorem w_eq5 {x y : Mi.U5} {b : Bool} (r : y5.rep K H F1 v x) (q : y5.rep K H F2 u y) (h : Mi.eq5 x y = some b) (k : Q (.bl b) H) : rEq v u H Q := by
  rcases s5_cases r with ⟨i, rfl, rfl⟩ | ⟨s, rfl, rfl⟩ | ⟨c, rfl, rfl⟩ | ⟨_, rfl, _⟩ | ⟨_, rfl, _⟩
  · rcases s5_cases q with ⟨j, rfl, rfl⟩ | ⟨_, rfl, rfl⟩ | ⟨_, rfl, rfl⟩ | ⟨_, rfl, _⟩ | ⟨_, rfl, _⟩
    · cases h; exact ⟨rfl, by rw [dInt]; exact k⟩
    all_goals cases h
  · rcases s5_cases q with ⟨_, rfl, rfl⟩ | ⟨t, rfl, rfl⟩ | ⟨_, rfl, rfl⟩ | ⟨_, rfl, _⟩ | ⟨_, rfl, _⟩
    · cases h
    · cases h; exact ⟨rfl, by rw [dTx]; exact k⟩
    all_goals cases h
  · rcases s5_cases q with ⟨_, rfl, rfl⟩ | ⟨_, rfl, rfl⟩ | ⟨t, rfl, rfl⟩ | ⟨_, rfl, _⟩ | ⟨_, rfl, _⟩
    · cases h
    · cases h
    · cases h; exact ⟨rfl, by rw [dBl]; exact k⟩
    all_goals cases h
  · cases h
  · cases h
theorem w_eq2 {x y : Int ⊕ Bool} {b : Bool} (r : y2.rep K H F1 v x) (q : y2.rep K H F2 u y) (h : Mi.eq2 x y = some b) (k : Q (.bl b) H) : rEq v u H Q := by
  rcases s2_cases r with ⟨i, rfl, rfl⟩ | ⟨c, rfl, rfl⟩
  · rcases s2_cases q with ⟨j, rfl, rfl⟩ | ⟨_, rfl, rfl⟩
    · cases h; exact ⟨rfl, by rw [dInt]; exact k⟩
    · cases h
  · rcases s2_cases q with ⟨_, rfl, rfl⟩ | ⟨t, rfl, rfl⟩
    · cases h
    · cases h; exact ⟨rfl, by rw [dBl]; exact k⟩
theorem val_len5 {d : Mi.U5} {n : Int} (r : y5.rep K H F v d) (h : Mi.len5 d = some n) (ha : Val ta σ H v) : Val (tCB (rLenQ K) (tCons ta tNil)) σ H (.int n) := by
  rcases s5_cases r with ⟨_, rfl, rfl⟩ | ⟨_, rfl, rfl⟩ | ⟨_, rfl, rfl⟩ | ⟨_, rfl, r⟩ | ⟨_, rfl, r⟩
  · cases h
  · cases h
  · cases h
  · cases h; exact val_lenT r ha
  · cases h; exact val_lenT r ha
theorem itm_5 {d : Mi.U5} {i : Int} {x : Int ⊕ Bool} (r : y5.rep K H F v d) (h : Mi.it5 d i = some x) : ∃ u, y2.rep K H [] u x ∧ ∀ {σ : L2.St} {ta tb : TE}, Val ta σ H v → Val tb σ H (.int i) → Val (tOp (rIxT K) ta tb) σ H u := by
  rcases s5_cases r with ⟨_, rfl, rfl⟩ | ⟨_, rfl, rfl⟩ | ⟨_, rfl, rfl⟩ | ⟨xs, rfl, r⟩ | ⟨xs, rfl, r⟩
  · cases h
  · cases h
  · cases h
  · obtain ⟨y, e, rfl⟩ := Option.map_eq_some_iff.mp h
    obtain ⟨w, rw, kw⟩ := itm_T r e
    exact ⟨w, rw, kw⟩
  · obtain ⟨y, e, rfl⟩ := Option.map_eq_some_iff.mp h
    obtain ⟨w, rw, kw⟩ := itm_T r e
    exact ⟨w, rw, kw⟩
theorem fmt_5 {d : Mi.U5} {b : List Nat} (r : y5.rep K H F v d) (h : Mi.fmt5 d = some b) (k : Q (.str (toS b)) H) : (∃ y : Str, v = .str y ∧ y.length ≤ sizeLine ∧ Q (.str y) H) ∨ ∃ i : Int, v = .int i ∧ i.natAbs.log2 < 1920 ∧ Q (.str (toString i)) H := by
  rcases s5_cases r with ⟨_, rfl, rfl⟩ | ⟨_, rfl, rfl⟩ | ⟨_, rfl, rfl⟩ | ⟨_, rfl, r⟩ | ⟨_, rfl, r⟩
  · exact fmt_I h k
  · exact fmt_S h k
  all_goals cases h
theorem js_f5 {ts : List TE} {acc b c : List Nat} {Qs : Str → Hp → Prop} {d : Mi.U5} (r : y5.rep K H F v d) (h1 : Mi.fmt5 d = some b) (h2 : Mi.sCat acc b = some c) (k : tJs ts (toS c) σ H Qs) :
    (∃ y : Str, v = .str y ∧ y.length ≤ sizeLine ∧ ∃ z : Str, V.str y = .str z ∧ (toS acc ++ z).length ≤ sizeLine ∧ tJs ts (toS acc ++ z) σ H Qs) ∨ ∃ i : Int, v = .int i ∧ i.natAbs.log2 < 1920 ∧ ∃ z : Str, V.str (toString i) = .str z ∧ (toS acc ++ z).length ≤ sizeLine ∧ tJs ts (toS acc ++ z) σ H Qs :=
  fmt_5 (Q := fun x H1 => ∃ z : Str, x = .str z ∧ (toS acc ++ z).length ≤ sizeLine ∧ tJs ts (toS acc ++ z) σ H1 Qs) r h1 (js_in h2 k)
/-! ### the sequences -/
theorem q_matchT (h : te σ H fun x H1 => tm x { D with nx := t2 D } σ H1) : tSeq (tMatchT te tm) t2 D σ H := h
theorem pr_unc {α β : Type} {R : α → β → Prop} {us : List α} {ys : List β} {p : β × List β} (h : Paired R us ys) (e : Mi.unc ys = some p) : ∃ u us', us = u :: us' ∧ R u p.1 ∧ Paired R us' p.2 := by
  cases h with
  | nil => cases e
  | cons h1 h2 => cases e; exact ⟨_, _, rfl, h1, h2⟩
theorem w_mseq {n : Nat} {c : Str} {l : List Nat} {is : List Nat} {d : List Mi.U5} {z : Option (List Mi.U5)} (r : (yTupL y5).rep K H F v d) (hm : Mi.mseq l n d = some z) (ec : c = toS l) (hn : is.length = n)
    (h1 : ∀ ys us, z = some ys → Paired (fun u x => y5.rep K H [] u x) us ys → tb D (putAll σ is us) H) (h2 : z = none → tr v D σ H) : tSeqC K c is tb tr v D σ H := by
  obtain ⟨a, vs, rfl, _, sq, q⟩ := r
  have hl := pr_len q
  refine ⟨a, vs, rfl, sq, ?_⟩
  unfold Mi.mseq at hm
  by_cases e : d.length = n + 1
  · rw [if_pos e] at hm
    right
    cases q with
    | nil => cases e
    | @cons u0 x0 us xs r0 q =>
      rcases s5_cases r0 with ⟨_, rfl, rfl⟩ | ⟨w, rfl, rfl⟩ | ⟨_, rfl, rfl⟩ | ⟨_, rfl, _⟩ | ⟨_, rfl, _⟩
      · cases hm
      · refine ⟨toS w, us, rfl, ?_, ?_⟩
        · have := pr_len q
          rw [List.length_cons] at e
          omega
        · have hm' : (if w = l then some (some xs) else some none) = some z := hm
          by_cases ew : w = l
          · rw [if_pos ew] at hm'
            exact .inl ⟨by rw [ew, ec], h1 xs us (Option.some.inj hm').symm q⟩
          · rw [if_neg ew] at hm'
            exact .inr ⟨fun z' => ew (toS_inj (z'.trans ec)), h2 (Option.some.inj hm').symm⟩
      · cases hm
      · cases hm
      · cases hm
  · rw [if_neg e] at hm
    exact .inl ⟨by rw [hl, hn]; exact e, h2 (Option.some.inj hm).symm⟩
theorem pi_listK {X : Cx} {K : PySem.W.Frag} {tg l : Expr} {tl : TE} (hl : PE X l tl) (e : X.K = K := by rfl) : PI X tg l (iList K tl) := by subst e; exact pi_list hl
theorem pi_tupK {X : Cx} {K : PySem.W.Frag} {tg l : Expr} {tl : TE} (hl : PE X l tl) (e : X.K = K := by rfl) : PI X tg l (iTup K tl) := by subst e; exact pi_tup hl
end
end G

/-! ### a list that is never changed again: frozen by a ghost step -/
namespace G
open PySem PySem.Spec PyProof.Rows L2
def FrzG (Q : VK) (x : V) (H1 : Hp) : Prop := ∃ a xs, x = .ref a ∧ H1 a = some (.lst xs) ∧ ∀ o, Q x (upd H1 a (.frz o (.lst xs)))
def tFrz (te : TE) : TE := fun σ H Q => te σ H (FrzG Q)
theorem pe_frz {X : Cx} {e : Expr} {te : TE} (he : PE X e te) : PE X e (tFrz te) := by
  refine ⟨fun pins s σ H Q I h => ?_⟩
  refine thn (he.run pins s σ H _ I h) fun u s1 ⟨x, H1, I1, r1, a, xs, ex, ha, q⟩ => ?_
  obtain ⟨z, its, n, rv, e⟩ := (show ObjOk X.prog X.w H1 s1.heap a (.lst xs) from I1.hok a _ ha)
  refine ⟨x, upd H1 a (.frz _ (.lst xs)), ?_, r1, q { cls := .type "list", data := .seq its.toArray n }⟩
  have ne : ∀ b u, H1 b = some u → u ≠ .lst xs → b ≠ a := fun b u hb hu z => by rw [z, ha] at hb; exact hu (Option.some.inj hb).symm
  refine I1.un (t' := s1.toks) (h' := s1.heap) ⟨fun b o q _ _ _ => q, fun b o q _ _ _ => ⟨o.slots, q⟩, fun b o q n _ => ?_, fun b o q _ => ⟨o, q⟩, fun b ys q => ?_, fun b o u q => ?_, fun b ps q => ⟨#[], ?_⟩⟩ fun b u q => ?_
  · rw [upd_ne (fun z => by rw [z, ha] at n; cases n)]; exact n
  · rw [upd_ne (ne b _ q (fun z => nomatch z))]; exact q
  · rw [upd_ne (ne b _ q (fun z => nomatch z))]; exact q
  · rw [upd_ne (ne b _ q (fun z => nomatch z)), q]; simp
  · by_cases hb : b = a
    · subst hb; rw [upd_same] at q; cases q
      exact ⟨e, z, its, n, rv, e⟩
    · rw [upd_ne hb] at q
      exact (I1.hok b u q).stay (fun c v _ q => q) (fun c q => by rw [upd_ne (ne c _ q (fun z => nomatch z))]; exact q) fun c ys q => by rw [upd_ne (ne c _ q (fun z => nomatch z))]; exact q
/-- a frozen list of things that never change -/
def yFl {α : Type} (τ : Ty α) : Ty (List α) where
  rep K H F v xs := F = [] ∧ ∃ a vs o, v = .ref a ∧ H a = some (.frz o (.lst vs)) ∧ Paired (fun u x => τ.rep K H [] u x) vs xs
  keep {K H H' F v xs} h k := by
    obtain ⟨f, a, vs, o, e, g, r⟩ := h
    exact ⟨f, a, vs, o, e, k a _ g (.inr trivial), Paired.mapP r fun u x q => τ.keep q fun b o hb z => k b o hb (z.elim (fun y => nomatch y) .inr)⟩
  dom {K H F v xs} h b m := by
    rw [h.1] at m; cases m
theorem fz_fl {α : Type} {τ : Ty α} : Fz (yFl τ) := fun h => h.1
section
variable {K : PySem.W.Frag} {σ σ' : L2.St} {H : Hp} {F F1 F2 Fu : List Addr} {ta tb te : TE} {tt : TT} {v u x y : V} {i j : Int} {α β : Type} {τ : Ty α} {υ : Ty β} {Q : VK} {D : Ends} {t1 t2 : TS} {g : TG} {ws : List Nat}
theorem w_frz (h : te σ H (FrzG Q)) : tFrz te σ H Q := h
theorem e_frz {xs : List α} (r : (yLst τ).rep K H F v xs) (k : ∀ H', Chg F H H' → (yFl τ).rep K H' [] v xs → Q v H') : FrzG Q v H := by
  obtain ⟨a, vs, e, f, g, q⟩ := r
  subst f
  have c : ∀ o, Chg [a] H (upd H a (.frz o (.lst vs))) := fun o => Chg.wr g (fun z => z)
  exact ⟨a, vs, e, g, fun o => k _ (c o) ⟨rfl, a, vs, o, e, upd_same, Paired.mapP q fun u x z => Ty.fz z (c o)⟩⟩
theorem fl_sq {xs : List α} (r : (yFl τ).rep K H F v xs) : ∃ a vs, v = .ref a ∧ SqL K H a vs ∧ Paired (fun u x => τ.rep K H [] u x) vs xs := by
  obtain ⟨f, a, vs, o, e, g, q⟩ := r
  exact ⟨a, vs, e, .inl (.inr ⟨o, g⟩), q⟩
theorem val_lenF {xs : List α} (r : (yFl τ).rep K H F v xs) (ha : Val ta σ H v) : Val (tCB (rLenQ K) (tCons ta tNil)) σ H (.int (xs.length : Int)) := by
  obtain ⟨a, vs, e, s, q⟩ := fl_sq r
  subst e
  exact fun Q k => ha _ ⟨a, vs, rfl, .inl s, by rw [pr_len q]; exact k⟩
theorem itm_F {xs : List α} {x : α} (r : (yFl τ).rep K H F v xs) (h : Mi.at_ xs i = some x) :
    ∃ u, τ.rep K H [] u x ∧ ∀ {σ : L2.St} {ta tb : TE}, Val ta σ H v → Val tb σ H (.int i) → Val (tOp (rIxL K) ta tb) σ H u := by
  obtain ⟨a, vs, e, s, q⟩ := fl_sq r
  subst e
  obtain ⟨u, e, ru⟩ := pr_at q h
  exact ⟨u, ru, fun ha hb => val_op ha hb fun Q k => ⟨a, vs, i, u, rfl, rfl, s, e, k⟩⟩
theorem itm_FI {xs : List Int} {x : Int} (r : (yFl yInt).rep K H F v xs) (h : Mi.at_ xs i = some x) {σ : L2.St} {ta tb : TE} (ha : Val ta σ H v) (hb : Val tb σ H (.int i)) : Val (tOp (rIxL K) ta tb) σ H (.int x) := by
  obtain ⟨u, ⟨_, rfl⟩, k⟩ := itm_F r h
  exact k ha hb
theorem ty_fl {xs : List α} (r : (yFl τ).rep K H F v xs) : TyX K H v (.type "list") := by
  obtain ⟨f, a, vs, o, rfl, g, q⟩ := r
  exact .base (.frz g)
theorem w_lenF {xs : List α} (r : (yFl τ).rep K H F v xs) (k : Q (.int (xs.length : Int)) H) : rLenQ K [v] H Q := by
  obtain ⟨a, vs, e, s, q⟩ := fl_sq r
  subst e
  exact ⟨a, vs, rfl, .inl s, by rw [pr_len q]; exact k⟩
theorem w_ixF {xs : List α} {x : α} (r : (yFl τ).rep K H F v xs) (h : Mi.at_ xs i = some x) (k : ∀ u, τ.rep K H [] u x → Q u H) : rIxL K v (.int i) H Q := by
  obtain ⟨a, vs, e, s, q⟩ := fl_sq r
  subst e
  obtain ⟨u, e, ru⟩ := pr_at q h
  exact ⟨a, vs, i, u, rfl, rfl, s, e, k u ru⟩
theorem tyv_fl {xs : List α} (r : (yFl τ).rep K H F v xs) : tyV K "list" v H := by
  obtain ⟨a, vs, rfl, s, q⟩ := fl_sq r
  exact .inl ⟨rfl, _, s⟩
theorem l_fl {g : TG} {tb : TS} {nx : L2.St → Hp → Prop} {xs : List α} (r : (yFl τ).rep K H F v xs) (Pv : Nat → L2.St → Hp → Prop) (h0 : Pv 0 σ H) (hl : ∀ i σ' H', Pv i σ' H' → (yFl τ).rep K H' F v xs)
    (hs : ∀ (i : Nat) (x : α) (u : V) σ' H', xs[i]? = some x → τ.rep K H' [] u x → Pv i σ' H' → g u σ' H' fun σ2 H2 => tb { D with nx := Pv (i + 1), ct := Pv (i + 1), bk := nx } σ2 H2) (hd : ∀ σ' H', Pv xs.length σ' H' → nx σ' H') :
    ∃ a, v = .ref a ∧ (∃ xs, SqL K H a xs) ∧ LoopG (Itl K a) g tb D nx σ H := by
  obtain ⟨a, vs, e, s, q⟩ := fl_sq r
  refine ⟨a, e, ⟨vs, s⟩, fun i m σ' H' => m = xs.length - i ∧ i ≤ xs.length ∧ Pv i σ' H', ⟨xs.length, by omega, Nat.zero_le _, h0⟩, ?_⟩
  rintro i m σ' H' ⟨rfl, hi, p⟩
  obtain ⟨a', vs', e', s', q'⟩ := fl_sq (hl i σ' H' p)
  obtain rfl : a = a' := by rw [e] at e'; exact V.ref.inj e'
  by_cases hlt : i < xs.length
  · obtain ⟨u, hu, ru⟩ := pr_get q' (List.getElem?_eq_getElem hlt)
    refine .inr ⟨⟨vs', u, s', hu⟩, Pv (i + 1), fun σ2 H2 p' => ⟨xs.length - (i + 1), by omega, rfl, hlt, p'⟩, fun x H2 y => ?_⟩
    obtain ⟨rfl, y⟩ := y
    obtain rfl : x = u := Option.some.inj ((y _ s').symm.trans hu)
    exact hs i _ _ σ' _ (List.getElem?_eq_getElem hlt) ru p
  · obtain rfl : i = xs.length := by omega
    exact .inl ⟨⟨vs', s', by rw [pr_len q']; exact Nat.le_refl _⟩, hd σ' H' p⟩
theorem nn_fl {xs : List α} (r : (yFl τ).rep K H F v xs) : v ≠ .non := by obtain ⟨f, a, vs, o, rfl, _⟩ := r; exact fun z => nomatch z
theorem kc_fl {xs : List β} (r : (yFl υ).rep K H F v xs) (Pv : Addr → Nat → Hp → Prop) (h0 : ∀ D H', H D = none → Chg [] H H' → (yLst τ).rep K H' [D] (.ref D) [] → Pv D 0 H') (hl : ∀ D i H', Pv D i H' → (yFl υ).rep K H' F v xs)
    (hs : ∀ D (i : Nat) (x : β) (u : V) H', xs[i]? = some x → υ.rep K H' [] u x → Pv D i H' → TurnG g tt te ws σ D (Pv D (i + 1)) u H') (hd : ∀ D H', H D = none → Pv D xs.length H' → Q (.ref D) H') :
    ∃ a, v = .ref a ∧ (∃ xs, SqL K H a xs) ∧ CompG (Itl K a) g tt te ws σ H Q := by
  obtain ⟨a, vs, e, s, q⟩ := fl_sq r
  refine ⟨a, e, ⟨vs, s⟩, comp_by (K := K) (τ := τ) xs.length Pv h0 (fun D i H' hi p => ?_) (fun D H' hD p => ?_)⟩
  · obtain ⟨a', vs', e', s', q'⟩ := fl_sq (hl D i H' p)
    obtain rfl : a = a' := by rw [e] at e'; exact V.ref.inj e'
    obtain ⟨u, hu, ru⟩ := pr_get q' (List.getElem?_eq_getElem hi)
    refine ⟨⟨vs', u, s', hu⟩, fun x H2 y => ?_⟩
    obtain ⟨rfl, y⟩ := y
    obtain rfl : x = u := Option.some.inj ((y _ s').symm.trans hu)
    exact hs D i _ _ _ (List.getElem?_eq_getElem hi) ru p
  · obtain ⟨a', vs', e', s', q'⟩ := fl_sq (hl D _ H' p)
    obtain rfl : a = a' := by rw [e] at e'; exact V.ref.inj e'
    exact ⟨⟨vs', s', by rw [pr_len q']; exact Nat.le_refl _⟩, hd D H' hD p⟩
theorem w_cutF {xs : List α} {lo hi : Option Int} (r : (yFl τ).rep K H F v xs) (k : ∀ p H', H p = none → Chg [] H H' → (yLst τ).rep K H' [p] (.ref p) (Mi.cut xs lo hi) → Q (.ref p) H') : rSlL K v lo hi H Q := by
  obtain ⟨p, vs, rfl, s, q⟩ := fl_sq r
  refine ⟨p, vs, rfl, s, fun n nn => k n _ nn (Chg.lay nn trivial) ⟨n, _, rfl, rfl, upd_same, ?_⟩⟩
  exact Paired.mapP (pr_cut q lo hi) fun _ _ z => Ty.ex z (Chg.lay nn trivial)
theorem w_listF {xs : List α} (r : (yFl τ).rep K H F v xs) (k : ∀ p H', H p = none → Chg [] H H' → (yLst τ).rep K H' [p] (.ref p) xs → Q (.ref p) H') : rListQ K [v] H Q := by
  obtain ⟨p, vs, rfl, s, q⟩ := fl_sq r
  exact ⟨p, vs, rfl, .inl s, fun n nn => k n _ nn (Chg.lay nn trivial) ⟨n, _, rfl, rfl, upd_same, Paired.mapP q fun _ _ z => Ty.ex z (Chg.lay nn trivial)⟩⟩
theorem w_tupleF {xs : List α} (r : (yFl τ).rep K H F v xs) (k : ∀ v H', Chg [] H H' → (yTupL τ).rep K H' [] v xs → Q v H') : rTupleQ K [v] H Q := by
  obtain ⟨p, vs, rfl, s, q⟩ := fl_sq r
  exact ⟨p, vs, rfl, .inl ⟨s, fun n nn => k _ _ (Chg.lay nn trivial) ⟨n, _, rfl, rfl, .inl (.inl upd_same), Paired.mapP q fun _ _ z => Ty.ex z (Chg.lay nn trivial)⟩⟩⟩
theorem ints_sqF {xs : List Int} (r : (yFl yInt).rep K H F v xs) : ∃ a, v = .ref a ∧ SqL K H a (xs.map V.int) := by
  obtain ⟨a, vs, e, s, q⟩ := fl_sq r
  rw [ints_of q] at s
  exact ⟨a, e, s⟩
theorem w_inF {xs : List Int} (r : (yFl yInt).rep K H F v xs) (k : Q (.bl (xs.contains i)) H) : rIn K false (.int i) v H Q := by
  obtain ⟨a, rfl, s⟩ := ints_sqF r
  exact ⟨a, _, rfl, .inl s, rfl, flat_ints xs, by rw [if_neg Bool.false_ne_true, in_ints]; exact k⟩
theorem w_niF {xs : List Int} (r : (yFl yInt).rep K H F v xs) (k : Q (.bl (!xs.contains i)) H) : rIn K true (.int i) v H Q := by
  obtain ⟨a, rfl, s⟩ := ints_sqF r
  exact ⟨a, _, rfl, .inl s, rfl, flat_ints xs, by rw [if_pos rfl, in_ints]; exact k⟩
theorem val_inF {xs : List Int} (r : (yFl yInt).rep K H F v xs) (ha : Val ta σ H (.int i)) (hb : Val tb σ H v) : Val (tOp (rIn K false) ta tb) σ H (.bl (xs.contains i)) := val_op ha hb fun Q q => w_inF r q
theorem val_niF {xs : List Int} (r : (yFl yInt).rep K H F v xs) (ha : Val ta σ H (.int i)) (hb : Val tb σ H v) : Val (tOp (rIn K true) ta tb) σ H (.bl (!xs.contains i)) := val_op ha hb fun Q q => w_niF r q
theorem w_sortedF {xs : List Int} (r : (yFl yInt).rep K H F v xs) (k : ∀ p H', H p = none → Chg [] H H' → (yLst yInt).rep K H' [p] (.ref p) (Mi.sortI xs) → Q (.ref p) H') : rSortedI K [v] H Q := by
  obtain ⟨p, rfl, s⟩ := ints_sqF r
  refine ⟨p, xs, rfl, s, fun ns q pm so nq => ?_⟩
  rw [sorted_unique (pm.trans (sortI_perm xs).symm) so (sortI_sorted xs)]
  exact k q _ nq (Chg.lay nq trivial) ⟨q, _, rfl, rfl, upd_same, ints_mk _⟩
theorem x_lrevF {xs : List α} (r : (yFl τ).rep K H F v xs) (k : ∀ p H', H p = none → Chg [] H H' → (yLst τ).rep K H' [p] (.ref p) xs.reverse → Q (.ref p) H') : LrvG K v H Q := by
  obtain ⟨a, vs, rfl, s, q⟩ := fl_sq r
  exact ⟨a, vs, rfl, s, fun p np => k p _ np (Chg.lay np trivial) ⟨p, _, rfl, rfl, upd_same, pr_reverse (Paired.mapP q fun _ _ z => Ty.ex z (Chg.lay np trivial))⟩⟩
theorem l_enumF {tb : TS} {nx : L2.St → Hp → Prop} {xs : List α} {i1 i2 : Nat} (r : (yFl τ).rep K H F v xs) (Pv : Nat → L2.St → Hp → Prop) (h0 : Pv 0 σ H) (hl : ∀ i σ' H', Pv i σ' H' → (yFl τ).rep K H' F v xs)
    (hs : ∀ (i : Nat) (x : Int × α) (u : V) σ' H' H2, (Mi.enumF 0 xs)[i]? = some x → Chg [] H' H2 → τ.rep K H2 [] u x.2 → Pv i σ' H' → tb { D with nx := Pv (i + 1), ct := Pv (i + 1), bk := nx } ((σ'.set i1 (some (.int x.1))).set i2 (some u)) H2) (hd : ∀ σ' H', Pv (Mi.enumF 0 xs).length σ' H' → nx σ' H') :
    ∃ a xs, [v] = [.ref a] ∧ SqL K H a xs ∧ LoopG (Ite K a) (gTup K 2 (gCons (gName i1) (gCons (gName i2) gNil))) tb D nx σ H := by
  obtain ⟨a, vs, rfl, s, q⟩ := fl_sq r
  refine ⟨a, vs, rfl, s, fun i m σ' H' => m = xs.length - i ∧ i ≤ xs.length ∧ Pv i σ' H', ⟨xs.length, by omega, Nat.zero_le _, h0⟩, ?_⟩
  rintro i m σ' H' ⟨rfl, hi, p⟩
  obtain ⟨a', vs', e', s', q'⟩ := fl_sq (hl i σ' H' p)
  obtain rfl := V.ref.inj e'
  by_cases hlt : i < xs.length
  · obtain ⟨u, hu, ru⟩ := pr_get q' (List.getElem?_eq_getElem hlt)
    refine .inr ⟨⟨vs', u, s', hu⟩, Pv (i + 1), fun σ2 H2 p' => ⟨xs.length - (i + 1), by omega, rfl, hlt, p'⟩, fun x H2 y => ?_⟩
    obtain ⟨T, w, rfl, nT, rfl, y⟩ := y
    obtain rfl : w = u := Option.some.inj ((y _ s').symm.trans hu)
    have hx := enumF_at 0 xs i (List.getElem?_eq_getElem hlt)
    have c : Chg [] H' (upd H' T (.tup [.int (i : Nat), w])) := Chg.lay nT trivial
    have h := hs i _ w σ' H' _ hx c (Ty.ex ru c) p
    have e0 : (0 : Int) + (i : Int) = (i : Int) := Int.zero_add _
    rw [e0] at h
    exact ⟨T, _, rfl, .inl (.inl upd_same), rfl, _, _, rfl, _, _, rfl, rfl, h⟩
  · obtain rfl : i = xs.length := by omega
    exact .inl ⟨⟨vs', s', by rw [pr_len q']; exact Nat.le_refl _⟩, hd σ' H' (by rw [enumF_len]; exact p)⟩
end
end G

/-! ### enumerate(list, start=c) -/
namespace G
open PySem PySem.Spec PyProof.Rows
theorem cw_typeKw {M : Model} {A : Around} {env : Env} {s : Shared} {E : Value → Shared → Prop} {pos : Pos} {T : String} {e : Expr} {kws : List Keyword} {Q : Value → Shared → Prop}
    (h : wpAny M A (spliced (backTo pos (starEach [e] env))) (fun vs s₁ => wpAny M A (evalAll ((backToKw pos (keywordEach kws env)).map (·.2)))
      (fun kvs s₂ => wpAny M A (call (.type T) vs (((backToKw pos (keywordEach kws env)).filterMap (·.1)).zip kvs)) Q E s₂) E s₁) E s)
    (he : starEach [e] env = [(false, eval e env)] := by rfl)
    (hall : (backToKw pos (keywordEach kws env)).all (·.1.isSome) = true := by rfl)
    (hkw : (backToKw pos (keywordEach kws env)).any (·.1.isNone) = false := by rfl) :
    wpAny M A (callWith pos (.type T) [] (backTo pos (starEach [e] env)) (backToKw pos (keywordEach kws env))) Q E s := by
  have hb : backTo pos (starEach [e] env) = [(false, eval e env)] := by rw [he]; rfl
  unfold callWith
  rw [hb] at h ⊢
  refine wpAny_bind (wpAny_holding (wpAny_mono (evalArgs_kwB (Q := fun a s₁ => wpAny M A (call (.type T) ([] ++ a.pos) a.kw) Q E s₁) hall h) (fun a s₁ h₁ => wpAny_bind (wpAny_standAt ?_)) fun _ _ x => x))
  simp only [hkw, Bool.or_false, List.any_cons, List.any_nil]
  refine wpAny_bind (wpAny_pure ?_)
  exact wpAny_bind (wpAny_mono h₁ (fun r s₂ hr => wpAny_bind (wpAny_holding (wpAny_point (wpAny_pure hr)))) fun _ _ x => x)
theorem call_kwE {M : Model} {A : Around} {env : Env} {s : Shared} {E : Value → Shared → Prop} {f : Str} {p : Pos} {args : List Expr} {kws : List Keyword} {pos : Pos} {Q : Value → Shared → Prop}
    (h : wpAny M A (eval (.Name f p) env) (fun f s₁ => wpAny M A (callWith pos f [] (backTo pos (starEach args env)) (backToKw pos (keywordEach kws env))) Q E s₁) E s) :
    wpAny M A (eval (.Call (.Name f p) args kws pos) env) Q E s := by
  have he : eval (.Call (.Name f p) args kws pos) env = (do callWith pos (← eval (.Name f p) env) [] (backTo pos (starEach args env)) (backToKw pos (keywordEach kws env))) := by rfl
  rw [he]; exact wpAny_bind h
end G
namespace L2
open PySem PySem.Spec PyProof.Rows
/-- the list at a from the count c, each item in a new pair -/
def IteC (K : PySem.W.Frag) (c : Int) (a : Addr) : It :=
  ⟨fun i H => ∃ (xs : List V) (x : V), SqL K H a xs ∧ xs[i]? = some x, fun i H v H' => ∃ T x, v = .ref T ∧ H T = none ∧ H' = upd H T (.tup [.int (c + (i : Nat)), x]) ∧ ∀ xs, SqL K H a xs → xs[i]? = some x, fun i H => ∃ xs : List V, SqL K H a xs ∧ xs.length ≤ i⟩
theorem turn_enumC {P : Program} {w : World} {K : PySem.W.Frag} {elts : List Expr} {kk : Nat} {tpos : Pos} (c : Int) (a e it : Addr) :
    Turn P w K (.Tuple elts kk tpos) (IteC K c a) [e, it] e (fun i h => (∃ old, IsEnum h e it (c + ((i : Nat) : Int)) old) ∧ h.IsListIter it a i ∧ e ≠ it) where
  mem := by simp
  obj := fun i h st b hb => by
    obtain ⟨⟨old, he⟩, ⟨o, ho, hc, hd⟩, _⟩ := st
    rcases (show b = e ∨ b = it by simpa using hb) with z | z
    · rw [z]; exact ⟨_, he, fun v q => nomatch q⟩
    · rw [z]; exact ⟨o, ho, fun v q => by rw [hd] at q; cases q⟩
  keep := fun i h h' st k => let ⟨⟨old, he⟩, hi, hne⟩ := st; ⟨⟨old, k e (by simp) _ he⟩, hi.at fun o q => k it (by simp) o q, hne⟩
  item := by
    intro X hP hw hK hc i pins s σ H E I hf st hg
    subst hP hw hK
    obtain ⟨⟨old, hen⟩, hit, hne⟩ := st
    obtain ⟨xs, x, hsq, hx⟩ := hg
    obtain ⟨its, rv, pT, _⟩ := I.list hsq
    obtain ⟨u, hu, ru⟩ := rv.get hx
    have hel : e < s.heap.objs.size := Heap.lt_size hen
    have hil : it < s.heap.objs.size := by obtain ⟨_, q, _⟩ := hit; exact Heap.lt_size q
    have hT : s.heap.IsList a its.toArray := pT.isList
    have hTo : ∃ o1, s.heap.get? a = some o1 ∧ o1.cls = .type "list" := by
      obtain ⟨o, h1, h2, _⟩ := hT; exact ⟨o, h1, h2⟩
    have hai : a ≠ it := fun z => by
      obtain ⟨o1, e1, c1⟩ := hTo
      obtain ⟨o2, e2, c2, _⟩ := hit
      rw [z, e2] at e1
      cases e1
      rw [c1] at c2
      exact absurd c2 (by decide)
    have hea : e ≠ a := fun z => by
      obtain ⟨o1, e1, c1⟩ := hTo
      rw [← z] at e1
      have z2 : s.heap.get? e = _ := hen
      rw [z2] at e1
      cases e1
      exact absurd (show (Value.type "enumerate" : Value) = .type "list" from c1) (by decide)
    have hD := Draws.list (prog := X.prog) (w := X.w) (A := X.A.in1) (I.ok.hd hc) it a hai its.toArray
    refine wpAny_pyNext_enum_itemC hD hen ⟨hit, hT⟩ (by have := (List.getElem?_eq_some_iff.mp hu).1; simpa using this) hne (by simp [hne, hea]) fun y h' tk hy ho st' hT1 hsz hk => ?_
    obtain rfl : u = y := by
      have hy' : its.toArray[i]? = some y := hy
      rw [List.getElem?_toArray, hu] at hy'
      exact Option.some.inj hy'
    refine ⟨_, rfl, wpAny_letOwnedTupleGo_enum (s := { s with heap := h', toks := tk + 1 }) ho fun h2 he2 sb => ?_⟩
    have hT2 : h2.get? s.heap.objs.size = some { cls := .type "tuple", data := .seq #[.int (c + (i : Nat)) tk, u] } := (sb.2 _ (Nat.ne_of_gt hel)).trans hT1
    have nw : ObjOk X.prog X.w (upd H s.heap.objs.size (.tup [.int (c + (i : Nat)), x])) h2 s.heap.objs.size (.tup [.int (c + (i : Nat)), x]) :=
      ⟨by show 2 ≤ sizeLine; decide, [.int (c + (i : Nat)) tk, u], .cons ⟨_, rfl⟩ (.cons ru .nil), ⟨_, hT2, rfl, _, rfl⟩⟩
    have I1 : Inv X pins σ (upd H s.heap.objs.size (.tup [.int (c + (i : Nat)), x])) { s with heap := h2, toks := tk + 1 } :=
      I.turnedNew (ch := [e, it]) (fun b ob hb q => (sb.2 b (fun z => hb (by simp [z]))).trans (hk b ob (fun z => hb (by simp [z])) (fun z => hb (by simp [z])) q)) hf (Nat.le_refl _) nw
    refine ⟨.ref s.heap.objs.size, _, I1, rfl, ⟨_, x, rfl, I.hok.fresh (Nat.le_refl _), rfl, fun ys hy => by rw [I.list_inj hy hsq]; exact hx⟩, ⟨⟨u, ?_⟩, st'.1.at fun o q => (sb.2 it (Ne.symm hne)).trans q, hne⟩, fun b hb => ?_⟩
    · rw [show c + ((i + 1 : Nat) : Int) = c + (i : Int) + 1 by omega]; exact he2
    · have hb' : b < s.heap.objs.size := by
        rcases (show b = e ∨ b = it by simpa using hb) with z | z
        · rw [z]; exact hel
        · rw [z]; exact hil
      rw [upd_ne (Nat.ne_of_lt hb')]
      exact (hf b hb).1
  done := by
    intro X hP hw hK hc i pins s σ H E I hf st hg
    subst hP hw hK
    obtain ⟨⟨old, hen⟩, hit, hne⟩ := st
    obtain ⟨xs, hsq, hx⟩ := hg
    obtain ⟨its, rv, pT, _⟩ := I.list hsq
    obtain ⟨f0, f1, f2, f3, f4, f5⟩ := hf it (by simp)
    have hl := rv.length
    have hT : s.heap.IsList a its.toArray := pT.isList
    have hTy : s.TypeIs (.ref e) "enumerate" := ⟨_, hen, rfl⟩
    unfold pyNext
    refine wpAny_bind (wpAny_attempt (wpAny_callSpecial?_slot (name := Str.ofString "__next__") hTy F.slot_enumerate_next (wpAny_call_entry F.slot_enumerate_next hTy F.entry_enumerate_next ?_ (F.args_enumerate_next_1 _))))
    show wpAny _ _ (field (.ref e) 2 >>= _) _ _ _
    refine wpAny_bind (wpAny_field hen rfl (x := .ref it) rfl ?_)
    refine wpAny_bind (wpAny_nextOf_list_end (I.ok.hd hc) hit hT (by simp; omega) fun h' y eb hy => ?_)
    obtain ⟨o, ho, hcl⟩ := hy
    refine wpAny_bind (wpAny_isInstance (T := "StopIteration") (b := true) ⟨o, ho, hcl⟩ isSubtype_stop ?_)
    exact wpAny_pure ⟨rfl, I.turned (t' := s.toks) (fun b o hb q => eb b o hb q) f0 f1 f3 f4 f5⟩
  self := fun A i s Q E st h => let ⟨⟨_, he⟩, _⟩ := st; wpAny_pyIter_enum he h
def iEnumC (K : PySem.W.Frag) (c : Int) (ta : TA) : TI := fun σ H R => ta σ H fun vs H1 => ∃ a xs, vs = [.ref a] ∧ SqL K H1 a xs ∧ R (IteC K c a) H1
theorem pi_enumC {X : Cx} {K : PySem.W.Frag} {e : Expr} {ta : TA} {p pos tpos kpos cpos : Pos} {j : Nat} {c : Int} {elts : List Expr} {kk : Nat} (hg : Gl X "enumerate") (hm : X.mg "enumerate" = none) (ha : PA X [e] ta) (hK : X.K = K := by rfl) (hs : starEach [e] X.env = [(false, eval e X.env)] := by rfl)
    (hk0 : -(2 ^ 63) ≤ c := by decide) (hk1 : c < 2 ^ 63 := by decide) :
    PI X (.Tuple elts kk tpos) (.Call (.Name "enumerate" p) [e] [⟨some (Str.ofString "start"), .Constant (.int c) j cpos, kpos⟩] pos) (iEnumC K c ta) := by
  subst hK
  refine ⟨fun pins s σ H R I h => ?_⟩
  refine G.call_kwE (ld_blt I hg hm boot_enumerate (G.cw_typeKw (thn (ha.run pos pins s σ H _ I h) fun us s1 ⟨vs, H1, I1, r1, q1⟩ => ?_) hs))
  have pk : PK X [⟨some (Str.ofString "start"), .Constant (.int c) j cpos, kpos⟩] (tCons (tC (.int c)) tNil) := pk_cons pe_int pk_nil
  have hq : tCons (tC (.int c)) tNil σ H1 (fun ws H2 => ws = [V.int c] ∧ H2 = H1) := by
    show (([V.int c] : List V) = [V.int c] ∧ H1 = H1)
    exact ⟨rfl, rfl⟩
  refine thn (pk.run pos pins s1 σ H1 _ I1 hq) fun kv s2 ⟨ws, H2, I2, r2, e1, e2⟩ => ?_
  subst e1 e2
  obtain ⟨a, xs, rfl, hsq, q⟩ := q1
  cases r1 with
  | cons r rr =>
    cases rr
    cases r
    cases r2 with
    | cons r r2 =>
      cases r2
      obtain ⟨t, rfl⟩ := r
      obtain ⟨its, rv, pT, _⟩ := I2.list hsq
      refine enum_begins_start (begins_list a its.toArray) pT.isList hk0 hk1 fun h' hen hit hsz hk => wpAny_pyIter_enum hen ?_
      have I3 : Inv X pins σ H2 { s2 with heap := h' } := I2.kept (t' := s2.toks) hk
      refine ⟨s2.heap.objs.size + 1, [s2.heap.objs.size + 1, s2.heap.objs.size], _, _, H2, rfl, I3, turn_enumC c a (s2.heap.objs.size + 1) s2.heap.objs.size, ⟨⟨.none, ?_⟩, ⟨_, hit, rfl, rfl⟩, Nat.succ_ne_self _⟩, fun b hb => ?_, q⟩
      · rw [show c + ((0 : Nat) : Int) = c by omega]; exact hen
      · have hle : s2.heap.objs.size ≤ b := by
          rcases (show b = s2.heap.objs.size + 1 ∨ b = s2.heap.objs.size by simpa using hb) with z | z
          · rw [z]; exact Nat.le_add_right _ _
          · rw [z]; exact Nat.le_refl _
        exact I2.fpOk hle (I2.hok.fresh hle)
end L2

namespace G
open PySem PySem.Spec PyProof.Rows L2
section
variable {X : Cx} {K : PySem.W.Frag} {σ σ' : L2.St} {H : Hp} {F F1 F2 Fu : List Addr} {ta tb te : TE} {v u x y : V} {i j : Int} {n : Nat} {α β : Type} {τ : Ty α} {υ : Ty β} {Q : VK} {D : Ends} {t1 t2 : TS} {g : TG} {ws : List Nat}
/-! ### enumerate from a count -/
theorem w_iEnumC {ts : TA} {c : Int} {R : It → Hp → Prop} (h : ts σ H fun vs H1 => ∃ a xs, vs = [.ref a] ∧ SqL K H1 a xs ∧ R (IteC K c a) H1) : iEnumC K c ts σ H R := h
theorem l_enumC {tb : TS} {nx : L2.St → Hp → Prop} {xs : List α} {c : Int} {i1 i2 : Nat} (r : (yLst τ).rep K H F v xs) (Pv : Nat → L2.St → Hp → Prop) (h0 : Pv 0 σ H) (hl : ∀ i σ' H', Pv i σ' H' → (yLst τ).rep K H' F v xs)
    (hs : ∀ (i : Nat) (x : Int × α) (u : V) σ' H' H2, (Mi.enumF c xs)[i]? = some x → Chg [] H' H2 → τ.rep K H2 [] u x.2 → Pv i σ' H' → tb { D with nx := Pv (i + 1), ct := Pv (i + 1), bk := nx } ((σ'.set i1 (some (.int x.1))).set i2 (some u)) H2) (hd : ∀ σ' H', Pv (Mi.enumF c xs).length σ' H' → nx σ' H') :
    ∃ a xs, [v] = [.ref a] ∧ SqL K H a xs ∧ LoopG (IteC K c a) (gTup K 2 (gCons (gName i1) (gCons (gName i2) gNil))) tb D nx σ H := by
  obtain ⟨a, vs, rfl, s, q⟩ := lst_sq r
  refine ⟨a, vs, rfl, s, fun i m σ' H' => m = xs.length - i ∧ i ≤ xs.length ∧ Pv i σ' H', ⟨xs.length, by omega, Nat.zero_le _, h0⟩, ?_⟩
  rintro i m σ' H' ⟨rfl, hi, p⟩
  obtain ⟨a', vs', e', s', q'⟩ := lst_sq (hl i σ' H' p)
  obtain rfl := V.ref.inj e'
  by_cases hlt : i < xs.length
  · obtain ⟨u, hu, ru⟩ := pr_get q' (List.getElem?_eq_getElem hlt)
    refine .inr ⟨⟨vs', u, s', hu⟩, Pv (i + 1), fun σ2 H2 p' => ⟨xs.length - (i + 1), by omega, rfl, hlt, p'⟩, fun x H2 y => ?_⟩
    obtain ⟨T, w, rfl, nT, rfl, y⟩ := y
    obtain rfl : w = u := Option.some.inj ((y _ s').symm.trans hu)
    have hx := enumF_at c xs i (List.getElem?_eq_getElem hlt)
    have cg : Chg [] H' (upd H' T (.tup [.int (c + (i : Nat)), w])) := Chg.lay nT trivial
    have h := hs i _ w σ' H' _ hx cg (Ty.ex ru cg) p
    exact ⟨T, _, rfl, .inl (.inl upd_same), rfl, _, _, rfl, _, _, rfl, rfl, h⟩
  · obtain rfl : i = xs.length := by omega
    exact .inl ⟨⟨vs', s', by rw [pr_len q']; exact Nat.le_refl _⟩, hd σ' H' (by rw [enumF_len]; exact p)⟩
/-! ### frozen lists as data -/
def dat_fl (d : Dat τ n) : Dat (yFl τ) (n + 1) where
  f := fun xs => .list (xs.map d.f)
  dec := @instDecidableEqList _ d.dec
  dp := fun h => by
    obtain ⟨a, vs, rfl, s, q⟩ := fl_sq h
    exact .lst s (dpAll (fun u x z => d.dp z) q)
  lay := fun xs => by simp only [PyData.canLay0]; exact layAll d.lay xs
  dpt := fun xs => by simp only [PyData.depth]; exact Nat.succ_le_succ (dptAll d.dpt xs)
  eqv := fun xs ys => by simp only [PyData.eqv]; exact @eqvAllL _ d.dec _ d.eqv xs ys
def dao_fl (d : DatO τ n) : DatO (yFl τ) (n + 1) where
  f := fun xs => .list (xs.map d.f)
  ok := fun xs => xs.all d.ok
  dec := @instDecidableEqList _ d.dec
  dp := fun h => by
    obtain ⟨a, vs, rfl, s, q⟩ := fl_sq h
    exact .lst s (dpAll (fun u x z => d.dp z) q)
  lay := fun xs h => by simp only [PyData.canLay0]; exact layAllO d.lay xs h
  dpt := fun xs => by simp only [PyData.depth]; exact Nat.succ_le_succ (dptAll d.dpt xs)
  eqv := fun xs ys => by simp only [PyData.eqv]; exact @eqvAllL _ d.dec _ d.eqv xs ys
/-! ### list.index -/
theorem mt_indexDK {K : PySem.W.Frag} (hu : X.A.units + 65 < cLine) (e : X.K = K := by rfl) : MtR X "list.index" (rIndexD K) := by subst e; exact mt_indexD hu
theorem idx_not {α : Type} [BEq α] [LawfulBEq α] {xs : List α} {d : α} {m : Nat} (h : m < xs.idxOf d) (hm : m < xs.length) : xs[m] ≠ d := by
  have := List.not_of_lt_findIdx (p := (· == d)) (xs := xs) (i := m) (by exact h)
  simpa using this
theorem m_indexO [BEq α] [LawfulBEq α] {xs : List α} {d : α} {z : Unit} (D : DatO τ n) (r : (yLst τ).rep K H F v xs) (q : τ.rep K H F2 u d) (g : Mi.guardO (xs.all D.ok && D.ok d) = some z) (hm : Mi.lIdx xs d = some i) (k : Q (.int i) H) (hn : n + 1 ≤ 64 := by decide) : rIndexD K v [u] H Q := by
  have dp := (dao_lst D).dp r
  have gg := okB g
  have sh := (dao_lst D).shaped hn xs gg.1
  obtain ⟨a, vs, rfl, s, qq⟩ := lst_sq r
  unfold Mi.lIdx at hm
  split at hm
  · rename_i hc
    obtain rfl := Option.some.inj hm
    have hmem := List.contains_iff_mem.mp hc
    have hj : xs.idxOf d < xs.length := List.idxOf_lt_length_iff.mpr hmem
    refine ⟨a, u, D.f d, xs.map D.f, xs.idxOf d, D.f d, rfl, rfl, dp, D.dp q, sh, D.shaped (by omega) d gg.2, ?_, ?_, fun m z' hmj hz => ?_, k⟩
    · rw [List.getElem?_map, List.getElem?_eq_getElem hj, List.getElem_idxOf hj]; rfl
    · letI := D.dec
      rw [D.eqv]; simp
    · have hml : m < xs.length := by omega
      rw [List.getElem?_map, List.getElem?_eq_getElem hml] at hz
      obtain rfl := Option.some.inj hz
      have ne := idx_not hmj hml
      rw [D.eqv]
      exact @decide_eq_false _ (D.dec _ _) ne
  · cases hm
theorem m_indexI {xs : List Int} {d : Int} (r : (yLst yInt).rep K H F v xs) (hm : Mi.lIdx xs d = some i) (k : Q (.int i) H) : rIndex K v [.int d] H Q := by
  obtain ⟨p, rfl, s⟩ := ints_sqL r
  unfold Mi.lIdx at hm
  split at hm
  · rename_i hc
    obtain rfl := Option.some.inj hm
    have hmem := List.contains_iff_mem.mp hc
    have hj : xs.idxOf d < xs.length := List.idxOf_lt_length_iff.mpr hmem
    refine ⟨p, _, .int d, xs.idxOf d, .int d, rfl, rfl, s, rfl, flat_ints xs, ?_, ?_, fun m z' hmj hz => ?_, k⟩
    · rw [List.getElem?_map, List.getElem?_eq_getElem hj, List.getElem_idxOf hj]; rfl
    · show (d == d) = true; simp
    · have hml : m < xs.length := by omega
      rw [List.getElem?_map, List.getElem?_eq_getElem hml] at hz
      obtain rfl := Option.some.inj hz
      show (xs[m] == d) = false
      simpa using idx_not hmj hml
  · cases hm
/-! ### int(one digit) -/
def rIntS : List V → Hp → VK → Prop := fun xs H Q => ∃ a n, xs = [.str a] ∧ PySem.intText? a = some n ∧ a.length ≤ 640 ∧ Q (.int n) H
theorem cl_intS : CallR X (.type "int") rIntS := call_int_str
theorem digits_ok : ∀ c : Fin 10, PySem.intText? (toS [48 + c.val]) = some ((c.val : Int)) := by decide +kernel
theorem w_intS {a : List Nat} (hm : Mi.sDig a = some i) (k : Q (.int i) H) : rIntS [.str (toS a)] H Q := by
  unfold Mi.sDig at hm
  split at hm
  · rename_i c
    split at hm
    · rename_i h
      obtain rfl := Option.some.inj hm
      have e := digits_ok ⟨c - 48, by omega⟩
      have e1 : 48 + (c - 48) = c := by omega
      simp only [e1] at e
      refine ⟨toS [c], _, rfl, e, by show 1 ≤ 640; decide, ?_⟩
      have e2 : ((c - 48 : Nat) : Int) = (c : Int) - 48 := by omega
      rw [e2]; exact k
    · cases hm
  · cases hm
theorem val_intS {a : List Nat} (hm : Mi.sDig a = some i) (ha : Val ta σ H (.str (toS a))) : Val (tCB rIntS (tCons ta tNil)) σ H (.int i) := fun Q q => ha _ (w_intS hm q)
/-! ### a dict of the module: texts to ints -/
structure Kd (K : PySem.W.Frag) (w : World) (a : Addr) (d : List (List Nat × Int)) : Prop where
  kd : ∃ es n, KDict K w a es n
  hit : ∀ z i, Mi.dGet d z = some i → ∃ u, PySem.W.nsIn K a (toS z) = some (some u) ∧ RelV (.int i) u
  miss : ∀ z, Mi.dHas d z = false → PySem.W.nsIn K a (toS z) = some none
theorem dGet_has {d : List (List Nat × Int)} {z : List Nat} (h : Mi.dHas d z = true) : ∃ i, Mi.dGet d z = some i := by
  unfold Mi.dHas at h; unfold Mi.dGet
  cases e : d.find? (fun p => p.1 == z) with
  | some p => exact ⟨p.2, rfl⟩
  | none =>
    rw [List.any_eq_true] at h
    obtain ⟨p, hp, hz⟩ := h
    exact absurd hz (by simpa using List.find?_eq_none.mp e p hp)
def rNiK (K : PySem.W.Frag) (w : World) : R2 := fun x y H Q => ∃ (a : Addr) (es : Array DictEntry) (n : Nat) (z : Str) (r : Option Value), KDict K w a es n ∧ x = .str z ∧ y = .ref a ∧ PySem.W.nsIn K a z = some r ∧ Q (.bl (!r.isSome)) H
theorem op_ni_k {K : PySem.W.Frag} {w : World} (e : X.K = K := by rfl) (ew : X.w = w := by rfl) : OpR X (compareOp .NotIn) (rNiK K w) := by
  subst e ew
  intro pins s σ H x y v u Q I rx ry h
  obtain ⟨a, es, n, z, r, D, h1, h2, h3, q⟩ := h
  exact op_notIn_kd D pins s σ H x y v u Q I rx ry ⟨z, r, h1, h2, h3, q⟩
theorem ix_kd {K : PySem.W.Frag} {w : World} (e : X.K = K := by rfl) (ew : X.w = w := by rfl) : IxR X (rIxD K w) := by subst e ew; exact ix_kdict
theorem val_niK {w : World} {a : Addr} {d : List (List Nat × Int)} {z : List Nat} (D : Kd K w a d) (ha : Val ta σ H (.str (toS z))) (hb : Val tb σ H (.ref a)) : Val (tOp (rNiK K w) ta tb) σ H (.bl (!Mi.dHas d z)) := val_op ha hb fun Q q => by
  obtain ⟨es, n, kd⟩ := D.kd
  cases e : Mi.dHas d z with
  | false =>
    rw [e] at q
    exact ⟨a, es, n, toS z, none, kd, rfl, rfl, D.miss z e, q⟩
  | true =>
    rw [e] at q
    obtain ⟨i, hi⟩ := dGet_has e
    obtain ⟨u, hu, _⟩ := D.hit z i hi
    exact ⟨a, es, n, toS z, some u, kd, rfl, rfl, hu, q⟩
theorem val_ixK {w : World} {a : Addr} {d : List (List Nat × Int)} {z : List Nat} (D : Kd K w a d) (hm : Mi.dGet d z = some i) (ha : Val ta σ H (.ref a)) (hb : Val tb σ H (.str (toS z))) : Val (tOp (rIxD K w) ta tb) σ H (.int i) := val_op ha hb fun Q q => by
  obtain ⟨es, n, kd⟩ := D.kd
  obtain ⟨u, hu, ru⟩ := D.hit z i hm
  exact ⟨a, toS z, .int i, rfl, rfl, ⟨es, n, u, kd.at_, kd.lit, hu, ru⟩, q⟩
end
end G

namespace G
open PySem PySem.Spec PyProof.Rows L2
/-! ### the head: dicts of the module -/
def obsETG (n : Nat) (fa : List He.Fa) (fn : List He.DefD) (ts : List He.Tab) (ex : PySem.W.Frag → Bool) (g : Addr → Option Obj) : He.AlT × Bool := (He.obsT fa fn ts (He.frG g (He.asD g n)), ex (He.frG g (He.asD g n)))
def hookET (n : Nat) (fa : List He.Fa) (fn : List He.DefD) (ts : List He.Tab) (ex : PySem.W.Frag → Bool) : PySem.W.Hook where
  α := He.AlT × Bool
  obs := fun s => obsETG n fa fn ts ex s.heap.get?
  val := fun w => (He.valT fn ts w, true)
  says := fun w h => ∃ K : PySem.W.Frag, K.In h ∧ (He.SaysT fa fn ts w K ∧ ex K = true)
  of := fun _ _ e => ⟨_, He.frG_in, congrArg Prod.fst e, congrArg Prod.snd e⟩
  keeps := fun _ _ _ ⟨K, hK, c⟩ k => ⟨K, PySem.W.Frag.In.keeps hK k, c⟩
theorem obsETG_eq {n : Nat} {fa : List He.Fa} {fn : List He.DefD} {ts : List He.Tab} {ex : PySem.W.Frag → Bool} {g : Addr → Option Obj} {s : Shared} (h : ∀ a, g a = s.heap.get? a) : obsETG n fa fn ts ex g = (hookET n fa fn ts ex).obs s := by
  have e : g = s.heap.get? := funext h
  rw [e] <;> rfl
theorem keys_no {P : Params} {z : Str} : ∀ {l : List DictEntry} {ks : List Str}, l.map He.keyOf = He.keysIn P ks → z ∉ ks → l.find? (·.key.isStr z) = none ∧ l.any (·.refKey) = false
  | [], _, _, _ => ⟨rfl, rfl⟩
  | e :: r, [], h, _ => by cases h
  | e :: r, k :: ks, h, hz => by
    have h1 : He.keyOf e :: r.map He.keyOf = some (k, PyData.keyHash P k) :: He.keysIn P ks := h
    injection h1 with h2 h3
    obtain ⟨i1, i2⟩ := keys_no h3 (fun q => hz (List.mem_cons_of_mem _ q))
    unfold He.keyOf at h2
    split at h2
    · rename_i x t q
      have h4 := Option.some.inj h2
      obtain ⟨h5, h6⟩ := Prod.mk.inj h4
      have ne : e.key.isStr z = false := by
        rw [q]
        rw [PySem.W.isStr_of]
        show (x == z) = false
        rw [beq_eq_false_iff_ne]
        intro e; exact hz (by rw [← e, h5]; exact List.mem_cons_self ..)
      have nr : e.refKey = false := by unfold DictEntry.refKey; rw [q]
      refine ⟨?_, ?_⟩
      · rw [List.find?_cons, ne]; exact i1
      · rw [List.any_cons, nr, i2]; rfl
    · cases h2
theorem ns_miss {K : PySem.W.Frag} {P : Params} {a : Addr} {ks : List Str} (h : He.dicW K a = some (He.keysIn P ks)) {z : Str} (hz : z ∉ ks) : PySem.W.nsIn K a z = some none := by
  unfold He.dicW at h
  cases q : K.lookup a with
  | none =>
    rw [q] at h
    cases h
  | some o =>
    obtain ⟨oc, od, dt, osl⟩ := o
    rw [q] at h
    cases oc with
    | type c =>
      cases od with
      | none =>
        cases dt with
        | dict es n =>
          have h1 : (match decide (c = "dict") && (osl.isEmpty && !(a == sysModules)) with
            | true => some (es.toList.map He.keyOf)
            | false => none) = some (He.keysIn P ks) := h
          cases z' : decide (c = "dict") && (osl.isEmpty && !(a == sysModules)) with
          | false =>
            rw [z'] at h1
            cases h1
          | true =>
            rw [z'] at h1
            obtain ⟨e1, e2⟩ := keys_no (Option.some.inj h1) hz
            unfold PySem.W.nsIn
            rw [q]
            show (match es.toList.find? (·.key.isStr z) with
              | some e => some (some e.val)
              | none => if es.toList.any (·.refKey) then none else some none) = some none
            rw [e1]
            show (if es.toList.any (·.refKey) then none else some none) = some none
            rw [e2]; rfl
        | _ => cases h
      | some b => cases dt <;> cases h
    | _ => cases od <;> cases dt <;> cases h
theorem says_tab {fa : List He.Fa} {fn : List He.DefD} {ts : List He.Tab} {w : World} {K : PySem.W.Frag} (c : He.SaysT fa fn ts w K) (i : Nat) {t : He.Tab} (h : ts[i]? = some t := by rfl) : He.dicW K (t.1 K) = some (He.keysIn w.params t.2) := by
  have e : ts.map (fun t => He.dicW K (t.1 K)) = ts.map fun t => some (He.keysIn w.params t.2) := congrArg (fun z : He.AlT => z.2) c
  have e2 : (ts.map fun t => He.dicW K (t.1 K))[i]? = (ts.map fun t => some (He.keysIn w.params t.2))[i]? := by rw [e]
  rw [List.getElem?_map, List.getElem?_map, h] at e2
  exact Option.some.inj e2
theorem kd_of {K : PySem.W.Frag} {w : World} {a : Addr} {d : List (List Nat × Int)} (h : He.dicW K a = some (He.keysIn w.params (d.map fun p => toS p.1))) (hv : He.valsB K a (d.map fun p => (toS p.1, He.Dv.int p.2)) = true) : Kd K w a d where
  kd := He.dicW_ok h
  hit := fun z i hz => by
    unfold Mi.dGet at hz
    cases e : d.find? (fun p => p.1 == z) with
    | none => rw [e] at hz; cases hz
    | some p =>
      rw [e] at hz
      obtain rfl := Option.some.inj hz
      have hp := List.mem_of_find?_eq_some e
      have hk : p.1 = z := by simpa using List.find?_some e
      have := He.valsB_ok hv (q := (toS p.1, He.Dv.int p.2)) (List.mem_map.mpr ⟨p, hp, rfl⟩)
      rw [← hk]; exact this
  miss := fun z hz => ns_miss h fun hm => by
    obtain ⟨p, hp, he⟩ := List.mem_map.mp hm
    unfold Mi.dHas at hz
    have := (List.any_eq_false.mp hz) p hp
    exact this (by rw [toS_inj he]; simp)
end G

namespace L2
open PySem PySem.Spec PyProof.Rows
/-- a op b op c op d -/
def tChain3 (r r' r2 : R2) (ta tb tc td : TE) : TE := fun σ H Q => ta σ H fun x H1 => tb σ H1 fun y H2 => r x y H2 fun z H3 => ∃ k, z = .bl k ∧
  (if k = true then tc σ H3 fun w' H4 => r' y w' H4 fun z' H5 => ∃ k', z' = .bl k' ∧ (if k' = true then td σ H5 fun t H6 => r2 w' t H6 Q else Q (.bl false) H5) else Q (.bl false) H3)
theorem pe_chain3 {X : Cx} {a b c d : Expr} {ta tb tc td : TE} {pos : Pos} {op op' op2 : CmpOp} {r r' r2 : R2} (ho : OpR X (compareOp op) r) (ho' : OpR X (compareOp op') r') (ho2 : OpR X (compareOp op2) r2) (ha : PE X a ta) (hb : PE X b tb) (hc : PE X c tc) (hd : PE X d td)
    (hm : lastMarks [op, op', op2] [b, c, d] = false := by with_unfolding_all rfl) : PE X (.Compare a [op, op', op2] [b, c, d] pos) (tChain3 r r' r2 ta tb tc td) := by
  refine ⟨fun pins s σ H Q I h => ?_⟩
  refine Compare_chain (thn (ha.run pins s σ H _ I h) fun v s1 ⟨x, H1, I1, r1, q1⟩ => chain_link (thn (hb.run pins s1 σ H1 _ I1 q1) fun u s2 ⟨y, H2, I2, r2, q2⟩ =>
    thn (ho pins s2 σ H2 x y v u _ I2 r1 r2 q2) fun d s3 ⟨z, H3, I3, r3, k, e, q3⟩ => ?_)) hm
  subst e
  cases r3
  refine wpAny_truthy_bool ?_
  cases k with
  | false => exact ite_ff ⟨.bl false, H3, I3, rfl, q3⟩
  | true =>
    refine ite_tt (chain_link (thn (hc.run pins s3 σ H3 _ I3 q3) fun w' s4 ⟨z', H4, I4, r4, q4⟩ => thn (ho' pins s4 σ H4 y z' u w' _ I4 r2 r4 q4) fun d5 s5 ⟨z5, H5, I5, r5, k5, e5, q5⟩ => ?_))
    subst e5
    cases r5
    refine wpAny_truthy_bool ?_
    cases k5 with
    | false => exact ite_ff ⟨.bl false, H5, I5, rfl, q5⟩
    | true => exact ite_tt (chain_last (thn (hd.run pins s5 σ H5 _ I5 q5) fun w6 s6 ⟨z6, H6, I6, r6, q6⟩ => ho2 pins s6 σ H6 z' z6 w' w6 Q I6 r4 r6 q6))
end L2
namespace G
open PySem PySem.Spec PyProof.Rows L2
section
variable {K : PySem.W.Frag} {σ σ' : L2.St} {H : Hp} {F F1 F2 Fu : List Addr} {ta tb tc td te : TE} {v u x y : V} {i j k l : Int} {α β : Type} {τ : Ty α} {υ : Ty β} {Q : VK} {c : Bool}
theorem val_chain3I {p q r : Int → Int → Bool} (ha : Val ta σ H (.int i)) (hb : Val tb σ H (.int j)) (hc : Val tc σ H (.int k)) (hd : Val td σ H (.int l)) : Val (tChain3 (rI0 fun i j => .bl (p i j)) (rI0 fun i j => .bl (q i j)) (rI0 fun i j => .bl (r i j)) ta tb tc td) σ H (.bl (p i j && (q j k && r k l))) := fun Q z => by
  refine ha _ (hb _ ⟨i, j, rfl, rfl, p i j, rfl, ?_⟩)
  cases e : p i j with
  | true =>
    rw [if_pos rfl]
    refine hc _ ⟨j, k, rfl, rfl, q j k, rfl, ?_⟩
    cases e2 : q j k with
    | true =>
      rw [if_pos rfl]
      refine hd _ ⟨k, l, rfl, rfl, ?_⟩
      rw [e, e2, Bool.true_and, Bool.true_and] at z; exact z
    | false =>
      rw [if_neg Bool.false_ne_true]
      rw [e, e2, Bool.true_and, Bool.false_and] at z; exact z
  | false =>
    rw [if_neg Bool.false_ne_true]
    rw [e, Bool.false_and] at z; exact z
theorem pe_idxK {X : Cx} {r : V → List V → Hp → VK → Prop} {o e : Expr} {to : TE} {t : TA} {apos cpos : Pos} (hm : MtR X "list.index" r) (ho : PE X o to) (ha : PA X [e] t) (hK : X.K = K := by rfl)
    (hbase : attributeBase o "index" X.env (eval o X.env) = eval o X.env := by rfl)
    (hfew : ((backTo cpos (starEach [e] X.env)).all (fun x => !x.1) && (backToKw cpos (keywordEach [] X.env)).all (fun x => x.1.isSome)
      && decide (([e] : List Expr).length + ([] : List Keyword).length + (if ([] : List Keyword).isEmpty then 0 else 1) < 30)) = true := by rfl)
    (hline : (apos.endLine == cpos.line) = true := by rfl) (hs : starEach [e] X.env = (false, eval e X.env) :: starEach [] X.env := by rfl) :
    PE X (.Call (.Attribute o "index" apos) [e] [] cpos) (tBM K "list" r to t) := by
  subst hK
  exact pe_bm PySem.F.plainAttrs_list PySem.F.slot_list_index PySem.F.type_list_index hm ho ha hbase hfew hline hs
theorem w_tupleU {ts : Tys α} {d : α} (r : (yTup ts).rep K H F v d) (k : Q v H) : rTupleQ K [v] H Q := by
  obtain ⟨a, vs, rfl, s, q⟩ := r
  exact ⟨a, vs, rfl, .inr ⟨s, k⟩⟩
end
end G

namespace G
open PySem PySem.Spec PyProof.Rows L2
section
variable {K : PySem.W.Frag} {σ σ' : L2.St} {H : Hp} {F F1 F2 Fu : List Addr} {ta tb te : TE} {v u x y : V} {i j : Int} {α β : Type} {τ : Ty α} {υ : Ty β} {Q : VK}
/-! ### a hop's part by its number -/
theorem ix_hop {d : Int × List Nat × Int × Int} {z : Int} (r : (yTup (sCons yInt (sCons yStr (sCons yInt (sOne yInt))))).rep K H F v d) (h : Mi.itH d i = some z) :
    (∀ {Q : VK}, Q (.int z) H → rIxT K v (.int i) H Q) ∧ ∀ {σ : L2.St} {ta tb : TE}, Val ta σ H v → Val tb σ H (.int i) → Val (tOp (rIxT K) ta tb) σ H (.int z) := by
  have key : ∀ {Q : VK}, Q (.int z) H → rIxT K v (.int i) H Q := by
    intro Q q
    unfold Mi.itH at h
    split at h
    · rename_i e; subst e
      obtain rfl := Option.some.inj h
      obtain ⟨u, F1, ⟨_, rfl⟩, _, k, _⟩ := itm_tup (n := 0) at0 r
      exact k q
    · split at h
      · rename_i e; subst e
        obtain rfl := Option.some.inj h
        obtain ⟨u, F1, ⟨_, rfl⟩, _, k, _⟩ := itm_tup (n := 2) (atS (atS at0)) r
        exact k q
      · split at h
        · rename_i e; subst e
          obtain rfl := Option.some.inj h
          obtain ⟨u, F1, ⟨_, rfl⟩, _, k, _⟩ := itm_tup (n := 3) (atS (atS (atS at1))) r
          exact k q
        · cases h
  exact ⟨key, fun ha hb => val_op ha hb fun Q q => key q⟩
/-! ### a list whose very items are known -/
def yVs (ws : List V) : Ty Unit where
  rep K H F v _ := (∀ w ∈ ws, ∃ a, w = V.ref a) ∧ ∃ a, v = .ref a ∧ F = [a] ∧ H a = some (.lst ws)
  keep {K H H' F v d} h k := by
    obtain ⟨z, a, e, f, g⟩ := h
    subst f
    exact ⟨z, a, e, rfl, k a _ g (.inl (List.mem_singleton.mpr rfl))⟩
  dom {K H F v d} h b m := by
    obtain ⟨z, a, e, f, g⟩ := h
    subst f
    rw [List.mem_singleton] at m; subst m
    exact ⟨_, g, fun z => z⟩
theorem vs_obj {C : Addr} {ns : List Str} {ts : Tys α} {xs : List α} (r : (yLst (yObj C ns ts)).rep K H F v xs) : ∃ ws, (yVs ws).rep K H F v () := by
  obtain ⟨a, vs, e, f, g, q⟩ := r
  refine ⟨vs, ?_, a, e, f, g⟩
  have key : ∀ {vs : List V} {xs : List α}, Paired (fun u x => (yObj C ns ts).rep K H [] u x) vs xs → ∀ w ∈ vs, ∃ a, w = V.ref a := by
    intro vs xs q
    induction q with
    | nil => intro w h; cases h
    | cons r t ih =>
      intro w h
      rcases List.mem_cons.mp h with rfl | h
      · obtain ⟨_, a, dx, vs, e, _⟩ := r
        exact ⟨a, e⟩
      · exact ih w h
  exact key q
theorem w_listV {ws : List V} {xs : List α} (r : (yLst τ).rep K H F v xs) (rv : (yVs ws).rep K H F1 v ()) (k : ∀ p H', H p = none → Chg [] H H' → (yLst τ).rep K H' [p] (.ref p) xs → (yVs ws).rep K H' [p] (.ref p) () → Q (.ref p) H') : rListQ K [v] H Q := by
  obtain ⟨p, vs, rfl, rfl, g, q⟩ := r
  obtain ⟨z, p', e, f, g'⟩ := rv
  obtain rfl := V.ref.inj e
  rw [g] at g'
  obtain rfl : vs = ws := by cases g'; rfl
  exact ⟨p, vs, rfl, .inl (.inl (.inl g)), fun n nn => k n _ nn (Chg.lay nn trivial) ⟨n, _, rfl, rfl, upd_same, Paired.mapP q fun _ _ z => Ty.ex z (Chg.lay nn trivial)⟩ ⟨z, n, rfl, rfl, upd_same⟩⟩
theorem w_eqVs {ws : List V} (r : (yVs ws).rep K H F1 v ()) (q : (yVs ws).rep K H F2 u ()) (k : Q (.bl true) H) : rEqV K v u H Q := by
  obtain ⟨z, a, e, f, g⟩ := r
  obtain ⟨_, b, e2, f2, g2⟩ := q
  refine ⟨1, by decide, .inl ⟨a, b, ws, ws, e, e2, .inl (.inl g), .inl (.inl g2), ?_⟩, k⟩
  have key : ∀ {ws : List V}, (∀ w ∈ ws, ∃ a, w = V.ref a) → Paired (EqV K H 1) ws ws := by
    intro ws
    induction ws with
    | nil => intro _; exact .nil
    | cons w ws ih =>
      intro h
      obtain ⟨a, e⟩ := h w (List.mem_cons_self ..)
      exact .cons (.inr (.inl ⟨a, e, e⟩)) (ih fun w hw => h w (List.mem_cons_of_mem _ hw))
  exact key z
theorem op_eqVK {X : Cx} {K : PySem.W.Frag} (hu : X.A.units + 64 < cLine) (e : X.K = K := by rfl) : OpR X (compareOp .Eq) (rEqV K) := by subst e; exact op_eqV hu
/-! ### frozen lists behind one another -/
def Lst (H : Hp) (a : Addr) (xs : List V) : Prop := H a = some (.lst xs) ∨ ∃ o, H a = some (.frz o (.lst xs))
def rCatF : R2 := fun x y H Q => ∃ l b xs zs, x = .ref l ∧ y = .ref b ∧ Lst H l xs ∧ Lst H b zs ∧ xs.length + zs.length ≤ sizeLine ∧ ∀ p, H p = none → Q (.ref p) (upd H p (.lst (xs ++ zs)))
theorem lst_ok {X : Cx} {pins : List (Addr × Obj)} {σ : L2.St} {s : Shared} {H : Hp} {a : Addr} {xs : List V} (I : Inv X pins σ H s) (h : Lst H a xs) : ∃ (its : List Value) (n : Nat), Vals xs its ∧ xs.length = its.length ∧ s.heap.get? a = some { cls := .type "list", data := .seq its.toArray n } := by
  rcases h with h | ⟨o, h⟩
  · obtain ⟨z, its, n, r, e⟩ := (show ObjOk X.prog X.w H s.heap a (.lst xs) from I.hok a _ h)
    exact ⟨its, n, r, r.length, e⟩
  · obtain ⟨e0, z, its, n, r, e⟩ := (show s.heap.get? a = some o ∧ ObjOk X.prog X.w H s.heap a (.lst xs) from I.hok a _ h)
    exact ⟨its, n, r, r.length, e⟩
theorem op_catF {X : Cx} : OpR X (binaryOp .Add) rCatF := by
  intro pins s σ H x y v u Q I rx ry h
  obtain ⟨l, b, xs, zs, rfl, rfl, hH, hB, hz, q⟩ := h
  cases rx
  cases ry
  obtain ⟨its, n, r, hl, e⟩ := lst_ok I hH
  obtain ⟨its2, n2, r2, hl2, e2⟩ := lst_ok I hB
  refine PySem.P.add_list e e2 ?_ (by rw [List.size_toArray, List.size_toArray]; omega)
  have ea : its.toArray ++ its2.toArray = (its ++ its2).toArray := by simp
  rw [ea]
  exact ⟨.ref _, _, I.lnew (t' := s.toks) (r.append r2) (by rw [List.length_append]; omega), rfl, q _ I.fresh⟩
theorem lst_L {xs : List α} (r : (yLst τ).rep K H F v xs) : ∃ p vs, v = .ref p ∧ Lst H p vs ∧ Paired (fun u x => τ.rep K H [] u x) vs xs := by
  obtain ⟨p, vs, rfl, rfl, g, q⟩ := r
  exact ⟨p, vs, rfl, .inl g, q⟩
theorem lst_F {xs : List α} (r : (yFl τ).rep K H F v xs) : ∃ p vs, v = .ref p ∧ Lst H p vs ∧ Paired (fun u x => τ.rep K H [] u x) vs xs := by
  obtain ⟨f, p, vs, o, rfl, g, q⟩ := r
  exact ⟨p, vs, rfl, .inr ⟨o, g⟩, q⟩
theorem w_catQ {xs ys zs : List α} (r : ∃ p vs, v = .ref p ∧ Lst H p vs ∧ Paired (fun u x => τ.rep K H [] u x) vs xs) (q : ∃ p vs, u = .ref p ∧ Lst H p vs ∧ Paired (fun u x => τ.rep K H [] u x) vs ys) (hm : Mi.cat xs ys = some zs) (k : ∀ p H', H p = none → Chg [] H H' → (yLst τ).rep K H' [p] (.ref p) zs → Q (.ref p) H') : rCatF v u H Q := by
  obtain ⟨p, vs, rfl, g, r1⟩ := r
  obtain ⟨p2, us, rfl, g2, r2⟩ := q
  unfold Mi.cat at hm
  split at hm
  · rename_i hz
    cases hm
    refine ⟨p, p2, vs, us, rfl, rfl, g, g2, sz (by rw [pr_len r1, pr_len r2]; exact hz), fun n nn => k n _ nn (Chg.lay nn trivial) ⟨n, _, rfl, rfl, upd_same, ?_⟩⟩
    exact Paired.mapP (pr_app r1 r2) fun _ _ z => Ty.ex z (Chg.lay nn trivial)
  · cases hm
/-! ### == of data of like kinds -/
section
variable {n m : Nat} {x y : α} {w' : V}
theorem w_eqD2 [z : DecidableEq α] {τ υ : Ty α} (d : Dat τ n) (d2 : Dat υ m) (e : ∀ x, d2.f x = d.f x) (r : τ.rep K H F1 v x) (q : υ.rep K H F2 w' y) (k : Q (.bl (decide (x = y))) H) (hn : n ≤ 64 := by decide) : rEqD K v w' H Q :=
  ⟨_, _, d.dp r, e y ▸ d2.dp q, d.shaped hn x, d.shaped hn y, by
    have e : @decide (x = y) (d.dec x y) = @decide (x = y) (z x y) := by congr
    rw [d.eqv, e]; exact k⟩
theorem w_neD2 [z : DecidableEq α] {τ υ : Ty α} (d : Dat τ n) (d2 : Dat υ m) (e : ∀ x, d2.f x = d.f x) (r : τ.rep K H F1 v x) (q : υ.rep K H F2 w' y) (k : Q (.bl (!decide (x = y))) H) (hn : n ≤ 64 := by decide) : rNeD K v w' H Q :=
  ⟨_, _, d.dp r, e y ▸ d2.dp q, d.shaped hn x, d.shaped hn y, by
    have e : @decide (x = y) (d.dec x y) = @decide (x = y) (z x y) := by congr
    rw [d.eqv, e]; exact k⟩
end
end
end G

namespace G
open PySem PySem.Spec PyProof.Rows L2
section
variable {K : PySem.W.Frag} {σ σ' : L2.St} {H H' : Hp} {F F1 F2 Fu : List Addr} {ta tb te : TE} {v u x y : V} {i j : Int} {α β : Type} {τ : Ty α} {υ : Ty β} {Q : VK} {D : Ends}
/-! ### a list or a tuple -/
theorem w_inQ {d : List Int ⊕ List Int} (r : (ySum (yLst yInt) (yTupL yInt)).rep K H F v d) (k : Q (.bl ((Mi.unq d).contains i)) H) : rIn K false (.int i) v H Q := by
  cases d with
  | inl a => exact w_inL r k
  | inr a => exact w_inT r k
theorem w_niQ {d : List Int ⊕ List Int} (r : (ySum (yLst yInt) (yTupL yInt)).rep K H F v d) (k : Q (.bl (!(Mi.unq d).contains i)) H) : rIn K true (.int i) v H Q := by
  cases d with
  | inl a => exact w_niL r k
  | inr a => exact w_niT r k
theorem val_inQ {d : List Int ⊕ List Int} (r : (ySum (yLst yInt) (yTupL yInt)).rep K H F v d) (ha : Val ta σ H (.int i)) (hb : Val tb σ H v) : Val (tOp (rIn K false) ta tb) σ H (.bl ((Mi.unq d).contains i)) := val_op ha hb fun Q q => w_inQ r q
theorem val_niQ {d : List Int ⊕ List Int} (r : (ySum (yLst yInt) (yTupL yInt)).rep K H F v d) (ha : Val ta σ H (.int i)) (hb : Val tb σ H v) : Val (tOp (rIn K true) ta tb) σ H (.bl (!(Mi.unq d).contains i)) := val_op ha hb fun Q q => w_niQ r q
theorem w_listQ {d : List α ⊕ List α} (r : (ySum (yLst τ) (yTupL τ)).rep K H F v d) (k : ∀ p H', H p = none → Chg [] H H' → (yLst τ).rep K H' [p] (.ref p) (Mi.unq d) → Q (.ref p) H') : rListQ K [v] H Q := by
  cases d with
  | inl a => exact w_listL r k
  | inr a => exact w_listT r k
theorem w_lenQ {d : List α ⊕ List α} (r : (ySum (yLst τ) (yTupL τ)).rep K H F v d) (k : Q (.int ((Mi.unq d).length : Int)) H) : rLenQ K [v] H Q := by
  cases d with
  | inl a => exact w_lenL r k
  | inr a => exact w_lenT r k
theorem val_lenQ {d : List α ⊕ List α} (r : (ySum (yLst τ) (yTupL τ)).rep K H F v d) (ha : Val ta σ H v) : Val (tCB (rLenQ K) (tCons ta tNil)) σ H (.int ((Mi.unq d).length : Int)) := by
  cases d with
  | inl a => exact val_lenL r ha
  | inr a => exact val_lenT r ha
theorem val_isiQ {m : String} {b1 b2 : Bool} {d : List α ⊕ List α} (r : (ySum (yLst τ) (yTupL τ)).rep K H F v d) (ha : Val ta σ H v) (h1 : kitB "list" m = some b1) (h2 : kitB "tuple" m = some b2) : Val (tCB (rIsi K) (tCons ta (tCons (tC (.ty m)) tNil))) σ H (.bl (if Mi.isL d = true then b1 else b2)) := by
  cases d with
  | inl a => exact val_isi ha (ty_lst r) h1
  | inr a => exact val_isi ha (ty_tupl r) h2
theorem nil_of_tup {d : List α ⊕ List α} {xs : List α} (r : (yTupL τ).rep K H F v xs) : F = [] := by
  obtain ⟨a, vs, e, f, g, q⟩ := r; exact f
/-! ### an item of a list that owns its items, taken out to be changed -/
theorem itm_B {xs : List α} {x : α} (r : (yOwn τ).rep K H F v xs) (h : Mi.at_ xs i = some x) :
    ∃ u Fi, τ.rep K H Fi u x ∧ Sub Fi F ∧ (∀ {Q : VK}, Q u H → rIxL K v (.int i) H Q) ∧ (∀ {σ : L2.St} {ta tb : TE}, Val ta σ H v → Val tb σ H (.int i) → Val (tOp (rIxL K) ta tb) σ H u) ∧
      ∀ {H' : Hp} {y : α} {ys : List α}, Chg Fi H H' → τ.rep K H' Fi u y → Mi.setAt xs i y = some ys → (yOwn τ).rep K H' F v ys := by
  obtain ⟨a, vs, Fs, rfl, rfl, nd, g, q⟩ := r
  have hl := (Par3.len q).1
  unfold Mi.at_ at h
  obtain ⟨n, hn, hx⟩ := Mi.bnd h
  obtain ⟨u, Fi, hu, hF, ru⟩ := Par3.get q hx
  have hat : atI vs i = some u := by
    show (L2.ixN vs.length i).bind _ = _
    have e : L2.ixN vs.length i = some n := by rw [hl]; exact hn
    rw [e]; exact hu
  have k : ∀ {Q : VK}, Q u H → rIxL K (.ref a) (.int i) H Q := fun z => ⟨a, vs, i, u, rfl, rfl, .inl (.inl g), hat, z⟩
  refine ⟨u, Fi, ru, fun b hb => List.mem_cons_of_mem _ (List.mem_flatten.mpr ⟨Fi, List.mem_of_getElem? hF, hb⟩), k, fun ha hb => val_op ha hb fun Q z => k z, fun {H' y ys} c r' hm => ?_⟩
  unfold Mi.setAt at hm
  rw [hn] at hm
  obtain rfl := Option.some.inj (show some (xs.set n y) = some ys from hm)
  refine ⟨a, vs, Fs, rfl, rfl, nd, ?_, Par3.setAt q hu hF r' fun m u' Fk x' hm' hFk rk => Ty.chg rk c fun b hb hb2 => ?_⟩
  · have ha : a ∉ Fi := fun hb => (List.nodup_cons.mp nd).1 (List.mem_flatten.mpr ⟨Fi, List.mem_of_getElem? hF, hb⟩)
    exact c.keep a _ g (.inl ha)
  · exact flat_apart (List.nodup_cons.mp nd).2 hF hFk hm' hb2 hb
/-! ### zip -/
def Rd (K : PySem.W.Frag) (R : Hp → Nat → V → Prop) (n : Nat) (H : Hp) (v : V) : Prop := ∃ a vs, v = .ref a ∧ SqL K H a vs ∧ vs.length = n ∧ ∀ j u, vs[j]? = some u → R H j u
def RdL (K : PySem.W.Frag) (τ : Ty α) (xs : List α) : Hp → Nat → V → Prop := fun H j u => ∃ x, xs[j]? = some x ∧ τ.rep K H [] u x
def RdG (K : PySem.W.Frag) (τ : Ty α) (F : List Addr) (xs : List α) : Hp → Nat → V → Prop := fun H j u => ∃ x Fi, xs[j]? = some x ∧ τ.rep K H Fi u x ∧ Sub Fi F
theorem rd_lst {xs : List α} {n : Nat} (hn : xs.length = n) (r : (yLst τ).rep K H F v xs) : Rd K (RdL K τ xs) n H v := by
  obtain ⟨a, vs, e, s, q⟩ := lst_sq r
  exact ⟨a, vs, e, s, by rw [pr_len q]; exact hn, fun j u hu => by obtain ⟨x, h1, h2⟩ := pr_getL q hu; exact ⟨x, h1, h2⟩⟩
theorem rd_fl {xs : List α} {n : Nat} (hn : xs.length = n) (r : (yFl τ).rep K H F v xs) : Rd K (RdL K τ xs) n H v := by
  obtain ⟨a, vs, e, s, q⟩ := fl_sq r
  exact ⟨a, vs, e, s, by rw [pr_len q]; exact hn, fun j u hu => by obtain ⟨x, h1, h2⟩ := pr_getL q hu; exact ⟨x, h1, h2⟩⟩
theorem rd_lsg {xs : List α} {n : Nat} (hn : xs.length = n) (r : (yLsg τ).rep K H F v xs) : Rd K (RdG K τ F xs) n H v := by
  obtain ⟨a, vs, e, _, s, q⟩ := lsg_sq r
  exact ⟨a, vs, e, s, by rw [pr_len q]; exact hn, fun j u hu => by obtain ⟨x, h1, Fi, h2, h3, _⟩ := pr_getL q hu; exact ⟨x, Fi, h1, h2, h3⟩⟩
theorem w_iZip {ts : TA} {R : It → Hp → Prop} (h : ts σ H fun vs H1 => ∃ a b xs ys, vs = [.ref a, .ref b] ∧ SqL K H1 a xs ∧ SqL K H1 b ys ∧ R (Itz K a b) H1) : iZip K ts σ H R := h
theorem pi_zipK {X : Cx} {K : PySem.W.Frag} {e e2 : Expr} {ta : TA} {p pos tpos : Pos} {elts : List Expr} {kk : Nat} (hg : Gl X "zip") (hm : X.mg "zip" = none) (ha : PA X [e, e2] ta) (hK : X.K = K := by rfl)
    (hs : starEach [e, e2] X.env = (false, eval e X.env) :: starEach [e2] X.env := by rfl) (hpl : (backTo pos (starEach [e2] X.env)).any (·.1) = false := by rfl) :
    PI X (.Tuple elts kk tpos) (.Call (.Name "zip" p) [e, e2] [] pos) (iZip K ta) := by subst hK; exact pi_zip hg hm ha hs hpl
theorem l_zip {R1 R2 : Hp → Nat → V → Prop} {n : Nat} {w : V} {tb : TS} {nx : L2.St → Hp → Prop} {i1 i2 : Nat} (r1 : Rd K R1 n H v) (r2 : Rd K R2 n H w) (Pv : Nat → L2.St → Hp → Prop) (h0 : Pv 0 σ H) (hl : ∀ i σ' H', Pv i σ' H' → Rd K R1 n H' v ∧ Rd K R2 n H' w)
    (hs : ∀ (i : Nat) (u z : V) σ' H' H2, R1 H' i u → R2 H' i z → Chg [] H' H2 → Pv i σ' H' → tb { D with nx := Pv (i + 1), ct := Pv (i + 1), bk := nx } ((σ'.set i1 (some u)).set i2 (some z)) H2) (hd : ∀ σ' H', Pv n σ' H' → nx σ' H') :
    ∃ a b xs ys, [v, w] = [.ref a, .ref b] ∧ SqL K H a xs ∧ SqL K H b ys ∧ LoopG (Itz K a b) (gTup K 2 (gCons (gName i1) (gCons (gName i2) gNil))) tb D nx σ H := by
  obtain ⟨a, vs, rfl, s, lv, _⟩ := r1
  obtain ⟨b, ws, rfl, s2, lw, _⟩ := r2
  refine ⟨a, b, vs, ws, rfl, s, s2, fun i m σ' H' => m = n - i ∧ i ≤ n ∧ Pv i σ' H', ⟨n, by omega, Nat.zero_le _, h0⟩, ?_⟩
  rintro i m σ' H' ⟨rfl, hi, p⟩
  obtain ⟨⟨a', vs', e', s', lv', q1⟩, ⟨b', ws', e2', s2', lw', q2⟩⟩ := hl i σ' H' p
  obtain rfl := V.ref.inj e'
  obtain rfl := V.ref.inj e2'
  by_cases hlt : i < n
  · have hx : vs'[i]? = some vs'[i] := List.getElem?_eq_getElem (by omega)
    have hy : ws'[i]? = some ws'[i] := List.getElem?_eq_getElem (by omega)
    refine .inr ⟨⟨vs', ws', _, _, s', s2', hx, hy⟩, Pv (i + 1), fun σ2 H2 p' => ⟨n - (i + 1), by omega, rfl, hlt, p'⟩, fun x H2 y => ?_⟩
    obtain ⟨T, x', y', rfl, nT, rfl, f1, f2⟩ := y
    have ex := f1 _ s'
    have ey := f2 _ s2'
    have c : Chg [] H' (upd H' T (.tup [x', y'])) := Chg.lay nT trivial
    have h := hs i x' y' σ' H' _ (q1 i x' ex) (q2 i y' ey) c p
    exact ⟨T, _, rfl, .inl (.inl upd_same), rfl, _, _, rfl, _, _, rfl, rfl, h⟩
  · obtain rfl : i = n := by omega
    exact .inl ⟨⟨vs', ws', s', s2', .inl (by omega)⟩, hd σ' H' p⟩
theorem zip_at {xs : List α} {ys : List β} {n : Nat} {x : α} {y : β} (h1 : xs[n]? = some x) (h2 : ys[n]? = some y) : (xs.zip ys)[n]? = some (x, y) := List.getElem?_zip_eq_some.mpr ⟨h1, h2⟩
theorem zip_l1 {xs : List α} {ys : List β} {z : Unit} (h : Mi.guardO (decide (xs.length = ys.length)) = some z) : xs.length = (xs.zip ys).length := by
  rw [List.length_zip]
  unfold Mi.guardO at h
  split at h
  · rename_i q; have := of_decide_eq_true q; omega
  · cases h
theorem zip_l2 {xs : List α} {ys : List β} {z : Unit} (h : Mi.guardO (decide (xs.length = ys.length)) = some z) : ys.length = (xs.zip ys).length := by
  rw [List.length_zip]
  unfold Mi.guardO at h
  split at h
  · rename_i q; have := of_decide_eq_true q; omega
  · cases h
/-! ### extend by a frozen list -/
def rExtF : V → List V → Hp → VK → Prop := fun x vs H Q => ∃ l b xs zs, x = .ref l ∧ vs = [.ref b] ∧ H l = some (.lst xs) ∧ Lst H b zs ∧ xs.length + zs.length ≤ sizeLine ∧ Q .non (upd H l (.lst (xs ++ zs)))
theorem mt_extF {X : Cx} : MtM X "list.extend" rExtF := by
  intro pins s σ H x vs v us Q I rx rv h
  obtain ⟨l, b, xs, zs, rfl, rfl, hH, hB, hz, q⟩ := h
  cases rx
  obtain ⟨u, rfl, ru⟩ := rv.one
  cases ru
  obtain ⟨z, its, n, r, hl, e⟩ := I.lstM hH
  obtain ⟨its2, n2, r2, hl2, e2⟩ := lst_ok I hB
  have hsz : its.toArray.size + its2.toArray.size ≤ sizeLine := by rw [List.size_toArray, List.size_toArray]; omega
  have hlong : ¬ (!its.toArray.isEmpty && Builtin.List.listTooLong (its.toArray.size + its2.toArray.size)) = true := by
    rw [notLongL hsz, Bool.and_false]
    exact Bool.false_ne_true
  refine call_meets F.slot_list_extend ⟨_, e, rfl⟩ F.entry_list_extend (F.args_list_extend_2 _ _)
    (AutoSeq1.list_extend_list_list_0 l its.toArray n b its2.toArray n2 hlong (by rw [List.size_toArray]; omega) (by omega)) ⟨e, e2, ?_⟩
  refine ⟨.non, _, I.lset (its' := its ++ its2) hH e (by simp) (r.append r2) ?_, rfl, q⟩
  rw [List.length_append]; omega
theorem m_extF {xs ys zs : List α} (r : (yLst τ).rep K H F v xs) (q : (yFl τ).rep K H F2 u ys) (hm : Mi.ext xs ys = some zs) (k : ∀ H', Chg F H H' → (yLst τ).rep K H' F v zs → Q .non H') : rExtF v [u] H Q := by
  obtain ⟨a, vs, rfl, rfl, g, p⟩ := r
  obtain ⟨b, us, rfl, g2, p2⟩ := lst_F q
  unfold Mi.ext at hm
  split at hm
  · rename_i hc
    obtain rfl := Option.some.inj hm
    refine ⟨a, b, vs, us, rfl, rfl, g, g2, ?_, ?_⟩
    · rw [Paired.length p, Paired.length p2]; exact Nat.le_trans hc (by rw [sizeLine_eq]; decide)
    · have c : Chg [a] H (upd H a (.lst (vs ++ us))) := Chg.wr g (fun z => z)
      exact k _ c ⟨a, _, rfl, rfl, upd_same, pr_app (Paired.mapP p fun _ _ z => Ty.fz z c) (Paired.mapP p2 fun _ _ z => Ty.fz z c)⟩
  · cases hm
/-! ### an item of an owning list set anew -/
theorem q_nd {d : List α ⊕ List α} (r : (ySum (yLst τ) (yTupL τ)).rep K H F v d) : F.Nodup := by
  cases d with
  | inl a => exact lst_nd r
  | inr a => rw [nil_of_tup (d := .inr a) r]; exact List.nodup_nil
theorem flat_set {Fs : List (List Addr)} {n : Nat} {Fu : List Addr} {b : Addr} (h : b ∈ (Fs.set n Fu).flatten) : b ∈ Fs.flatten ∨ b ∈ Fu := by
  obtain ⟨G, hG, hb⟩ := List.mem_flatten.mp h
  rcases List.mem_or_eq_of_mem_set hG with hG | rfl
  · exact .inl (List.mem_flatten.mpr ⟨G, hG, hb⟩)
  · exact .inr hb
theorem set_nodup {Fs : List (List Addr)} {n : Nat} {Fu : List Addr} (nd : Fs.flatten.Nodup) (nu : Fu.Nodup) (dj : ∀ b ∈ Fs.flatten, b ∉ Fu) : (Fs.set n Fu).flatten.Nodup := by
  induction Fs generalizing n with
  | nil => exact nd
  | cons G Fs ih =>
    rw [List.flatten_cons, List.nodup_append] at nd
    cases n with
    | zero =>
      rw [List.set_cons_zero, List.flatten_cons, List.nodup_append]
      exact ⟨nu, nd.2.1, fun b hb b' hb' e => by subst e; exact dj b (by rw [List.flatten_cons]; exact List.mem_append_right _ hb') hb⟩
    | succ n =>
      rw [List.set_cons_succ, List.flatten_cons, List.nodup_append]
      refine ⟨nd.1, ih nd.2.1 fun b hb => dj b (by rw [List.flatten_cons]; exact List.mem_append_right _ hb), fun b hb b' hb' e => ?_⟩
      subst e
      rcases flat_set hb' with h | h
      · exact nd.2.2 b hb b h rfl
      · exact dj b (by rw [List.flatten_cons]; exact List.mem_append_left _ hb) h
theorem Par3.put {R : V → List Addr → α → Prop} {u : V} {Fu : List Addr} {y : α} : ∀ {vs Fs} {xs : List α} (_ : Par3 R vs Fs xs) (j : Nat), R u Fu y → Par3 R (vs.set j u) (Fs.set j Fu) (xs.set j y)
  | _, _, _, .nil, _, _ => .nil
  | _, _, _, .cons r t, 0, h => .cons h t
  | _, _, _, .cons r t, j + 1, h => .cons r (Par3.put t j h)
theorem m_setO {xs ys : List α} {d : α} (r : (yOwn τ).rep K H F v xs) (ru : τ.rep K H Fu u d) (dj : Dj F Fu) (nu : Fu.Nodup) (hm : Mi.setAt xs i d = some ys)
    (k : ∀ H' F', Chg F H H' → (yOwn τ).rep K H' F' v ys → Sub F' (F ++ Fu) → t1 H') : rSetL v (.int i) u H t1 := by
  obtain ⟨p, vs, Fs, rfl, rfl, nd, g, q⟩ := r
  have np : p ∉ Fu := dj p (List.mem_cons_self ..)
  have hpf := (List.nodup_cons.mp nd).1
  unfold Mi.setAt at hm
  obtain ⟨n, hn, hm⟩ := Option.map_eq_some_iff.mp (show (Mi.ixN xs.length i).map (fun j => xs.set j d) = some ys by rw [← hm]; cases Mi.ixN xs.length i <;> rfl)
  subst hm
  have c : Chg [p] H (upd H p (.lst (vs.set n u))) := Chg.wr g (fun z => z)
  have kp : ∀ {γ : Type} {ρ : Ty γ} {Fi : List Addr} {w : V} {e : γ}, ρ.rep K H Fi w e → p ∉ Fi → ρ.rep K (upd H p (.lst (vs.set n u))) Fi w e := fun rr hn => Ty.chg rr c fun b hb z => by
    rw [List.mem_singleton] at z; subst z; exact hn hb
  have e : L2.ixN vs.length i = some n := by rw [(Par3.len q).1]; exact hn
  refine ⟨p, vs, i, n, rfl, rfl, g, e, k _ (p :: (Fs.set n Fu).flatten) (c.mono fun b hb => by rw [List.mem_singleton] at hb; subst hb; exact List.mem_cons_self ..) ⟨p, _, Fs.set n Fu, rfl, rfl, ?_, upd_same, Par3.put (Par3.mapP q fun w Fi e m z => kp z fun hp => hpf (List.mem_flatten.mpr ⟨Fi, m, hp⟩)) n (kp ru np)⟩ ?_⟩
  · refine List.nodup_cons.mpr ⟨fun hp => (flat_set hp).elim hpf np, set_nodup (List.nodup_cons.mp nd).2 nu fun b hb => dj b (List.mem_cons_of_mem _ hb)⟩
  · intro b hb
    rcases List.mem_cons.mp hb with rfl | hb
    · exact List.mem_append_left _ (List.mem_cons_self ..)
    · rcases flat_set hb with hb | hb
      · exact List.mem_append_left _ (List.mem_cons_of_mem _ hb)
      · exact List.mem_append_right _ hb
end
end G

namespace G
open PySem PySem.Spec PyProof.Rows L2
/-- an int or None -/
def dat_optI : Dat (yOpt yInt) 0 where
  f := fun o => match o with
    | none => .none
    | some i => .int i
  dec := inferInstance
  dp := fun {K H F v d} h => by
    cases d with
    | none => obtain ⟨_, rfl⟩ := h; exact .non
    | some i => obtain ⟨_, _, rfl⟩ := h; exact .int i
  lay := fun d => by cases d <;> simp [PyData.canLay0]
  dpt := fun d => by cases d <;> simp [PyData.depth]
  eqv := fun d e => by
    cases d with
    | none => cases e with
      | none => simp [PyData.eqv]
      | some j => simp [PyData.eqv]
    | some i => cases e with
      | none => simp [PyData.eqv]
      | some j => simp only [PyData.eqv]; rw [beq_dec i j]; simp
section
variable {K : PySem.W.Frag} {σ σ' : L2.St} {H H' : Hp} {F F1 F2 Fu : List Addr} {ta tb te : TE} {v u x y : V} {i j : Int} {α β : Type} {τ : Ty α} {υ : Ty β} {Q : VK} {D : Ends}
/-- a slice of a list whose items may change -/
theorem w_cutG {xs : List α} {lo hi : Option Int} (r : (yLsg τ).rep K H F v xs) (k : ∀ p H', H p = none → Chg [] H H' → (yLsg τ).rep K H' (p :: F) (.ref p) (Mi.cut xs lo hi) → Q (.ref p) H') : rSlL K v lo hi H Q := by
  have dm := Ty.dm r
  obtain ⟨p, vs, rfl, _, s, q⟩ := lsg_sq r
  refine ⟨p, vs, rfl, s, fun n nn => k n _ nn (Chg.lay nn trivial) ⟨n, _, F, rfl, rfl, fun hn => ?_, upd_same, fun b hb => ?_, ?_⟩⟩
  · obtain ⟨o, ho, _⟩ := dm n hn
    rw [nn] at ho; cases ho
  · obtain ⟨o, ho, hf⟩ := dm b hb
    exact ⟨o, by rw [upd_ne (ne_of_none ho nn)]; exact ho, hf⟩
  · exact Paired.mapP (pr_cut q lo hi) fun u x z => by
      obtain ⟨Fi, ru, sb, _⟩ := z
      exact ⟨Fi, Ty.ex ru (Chg.lay nn trivial), sb⟩
/-- a new list that owns its one item -/
theorem e_own1 {d : α} (r : τ.rep K H Fu u d) (nu : Fu.Nodup) (k : ∀ p H', H p = none → Chg [] H H' → (yOwn τ).rep K H' (p :: Fu) (.ref p) [d] → Q (.ref p) H') : LstG [u] H Q := by
  refine ⟨by rw [sizeLine_eq]; show 1 ≤ _; decide, fun p np => k p _ np (Chg.lay np trivial) ⟨p, [u], [Fu], rfl, ?_, ?_, upd_same, .cons (Ty.ex r (Chg.lay np trivial)) .nil⟩⟩
  · rw [List.flatten_cons, List.flatten_nil, List.append_nil]
  · rw [List.flatten_cons, List.flatten_nil, List.append_nil]
    exact List.nodup_cons.mpr ⟨(fun hp => by obtain ⟨o, ho, _⟩ := Ty.dm r p hp; rw [np] at ho; cases ho), nu⟩
theorem Par3.snocR {R : V → List Addr → α → Prop} : ∀ {vs Fs} {xs : List α}, Par3 R vs Fs xs → Par3 R vs.reverse Fs.reverse xs.reverse
  | _, _, _, .nil => .nil
  | _, _, _, .cons r t => by
    rw [List.reverse_cons, List.reverse_cons, List.reverse_cons]
    exact Par3.snoc (Par3.snocR t) r
theorem flat_rev (Fs : List (List Addr)) : Fs.reverse.flatten.Perm Fs.flatten := (List.reverse_perm Fs).flatten
/-- xs[::-1] of a list that owns its items (the old list is left alone) -/
theorem x_slRevO {xs : List α} (r : (yOwn τ).rep K H F v xs) (k : ∀ p H' F', H p = none → Chg [] H H' → (yOwn τ).rep K H' F' (.ref p) xs.reverse → Sub F' (p :: F) → Q (.ref p) H') : SlkG K (-1) List.reverse v (some (-1)) H Q := by
  have dm := Ty.dm r
  obtain ⟨a, vs, Fs, rfl, rfl, nd, g, q⟩ := r
  refine ⟨rfl, a, vs, rfl, .inl (.inl g), fun p np => k p _ (p :: Fs.reverse.flatten) np (Chg.lay np trivial) ⟨p, _, Fs.reverse, rfl, rfl, ?_, upd_same, Par3.mapP (Par3.snocR q) fun u Fi x _ z => Ty.ex z (Chg.lay np trivial)⟩ fun b hb => ?_⟩
  · refine List.nodup_cons.mpr ⟨fun hp => ?_, (flat_rev Fs).nodup_iff.mpr (List.nodup_cons.mp nd).2⟩
    obtain ⟨o, ho, _⟩ := dm p (List.mem_cons_of_mem _ ((flat_rev Fs).mem_iff.mp hp))
    rw [np] at ho; cases ho
  · rcases List.mem_cons.mp hb with rfl | hb
    · exact List.mem_cons_self ..
    · exact List.mem_cons_of_mem _ (List.mem_cons_of_mem _ ((flat_rev Fs).mem_iff.mp hb))
theorem pr_mapR {A B C : Type} {R : A → B → Prop} {S : A → C → Prop} {f : B → C} (h : ∀ a b, R a b → S a (f b)) : ∀ {xs : List A} {ys : List B}, Paired R xs ys → Paired S xs (ys.map f)
  | _, _, .nil => .nil
  | _, _, .cons r t => .cons (h _ _ r) (pr_mapR h t)
/-- lists as lists or tuples -/
theorem lsg_inl {xs : List (List α)} (r : (yLsg (yLst τ)).rep K H F v xs) : (yLsg (ySum (yLst τ) (yTupL τ))).rep K H F v (xs.map .inl) := by
  obtain ⟨a, vs, G, e, f, na, g, dm, q⟩ := r
  exact ⟨a, vs, G, e, f, na, g, dm, pr_mapR (f := Sum.inl) (fun u x z => z) q⟩
/-! ### a walk over a list or a tuple -/
theorem pi_or {X : Cx} {tg e : Expr} {w1 w2 : TI} (h1 : PI X tg e w1) (h2 : PI X tg e w2) : PI X tg e (fun σ H R => w1 σ H R ∨ w2 σ H R) :=
  ⟨fun pins s σ H R I h => h.elim (h1.run pins s σ H R I) (h2.run pins s σ H R I)⟩
theorem l_q {tl : TE} {g : TG} {tb : TS} {nx : L2.St → Hp → Prop} {d : List α ⊕ List α} (hv : Val tl σ H v) (r : (ySum (yLst τ) (yTupL τ)).rep K H F v d) (Pv : Nat → L2.St → Hp → Prop) (h0 : Pv 0 σ H) (hl : ∀ i σ' H', Pv i σ' H' → (ySum (yLst τ) (yTupL τ)).rep K H' F v d)
    (hs : ∀ (i : Nat) (x : α) (u : V) σ' H', (Mi.unq d)[i]? = some x → τ.rep K H' [] u x → Pv i σ' H' → g u σ' H' fun σ2 H2 => tb { D with nx := Pv (i + 1), ct := Pv (i + 1), bk := nx } σ2 H2) (hd : ∀ σ' H', Pv (Mi.unq d).length σ' H' → nx σ' H') :
    iList K tl σ H (fun J H1 => LoopG J g tb D nx σ H1) ∨ iTup K tl σ H (fun J H1 => LoopG J g tb D nx σ H1) := by
  cases d with
  | inl a => exact .inl (w_iList (hv _ (l_lst r Pv h0 hl hs hd)))
  | inr a => exact .inr (w_iTup (hv _ (l_tup r Pv h0 hl hs hd)))
end
end G

namespace G
open PySem PySem.Spec PyProof.Rows L2
/-! ### for row in rows: row.append(x) -/
/-- the first i rows have got d -/
def eachTo {β : Type} (xs : List (List β)) (d : β) (i : Nat) : List (List β) := (xs.take i).map (fun r => r ++ [d]) ++ xs.drop i
theorem eachTo_len {β : Type} {xs : List (List β)} {d : β} {i : Nat} (h : i ≤ xs.length) : (eachTo xs d i).length = xs.length := by
  unfold eachTo
  rw [List.length_append, List.length_map, List.length_take, List.length_drop]; omega
theorem eachTo_get {β : Type} {xs : List (List β)} {d : β} {i : Nat} (h : i < xs.length) : (eachTo xs d i)[i]? = some xs[i] := by
  unfold eachTo
  have hl : ((xs.take i).map (fun r => r ++ [d])).length = i := by rw [List.length_map, List.length_take]; omega
  rw [List.getElem?_append_right (by omega), hl, Nat.sub_self, List.drop_eq_getElem_cons h]; rfl
theorem eachTo_set {β : Type} {xs : List (List β)} {d : β} {i : Nat} (h : i < xs.length) : (eachTo xs d i).set i (xs[i] ++ [d]) = eachTo xs d (i + 1) := by
  unfold eachTo
  have hl : ((xs.take i).map (fun r => r ++ [d])).length = i := by rw [List.length_map, List.length_take]; omega
  rw [List.set_append_right _ _ (by omega), hl, Nat.sub_self, List.drop_eq_getElem_cons h, List.take_succ_eq_append_getElem h, List.map_append, List.append_assoc]
  rfl
theorem each_ok {β : Type} {xs : List (List β)} {z : Unit} (h : Mi.guardO (xs.all fun r => decide (r.length < Mi.big)) = some z) : (xs.all fun r => decide (r.length < Mi.big)) = true := by
  cases e : xs.all fun r => decide (r.length < Mi.big) with
  | false => rw [e] at h; cases h
  | true => rfl
section
variable {K : PySem.W.Frag} {σ σ' : L2.St} {H : Hp} {F F1 F2 Fu G : List Addr} {ta tb te : TE} {v u x y e : V} {i j : Int} {α β : Type} {τ : Ty α} {υ : Ty β} {Q : VK} {D : Ends} {nx : L2.St → Hp → Prop}
theorem l_each {tb : TS} {xs : List (List β)} {d : β} {s : Nat} (r : (yOwn (yLst υ)).rep K H F v xs) (hs : s < σ.length) (he : ∀ H', υ.rep K H' [] e d) (hm : (xs.all fun r => decide (r.length < Mi.big)) = true)
    (hb : ∀ (D : Ends) (σ : L2.St) (H : Hp) (u : V), σ[s]? = some (some u) → tyV K "list" u H → (∀ {Q : VK}, (∀ H', D.nx σ H' → Q .non H') → rAppend u [e] H Q) → tb D σ H)
    (hk : ∀ σ' H', Chg F H H' → (yOwn (yLst υ)).rep K H' F v (xs.map fun r => r ++ [d]) → (∃ y, σ' = σ.set s y) → nx σ' H') :
    ∃ a, v = .ref a ∧ (∃ xs, SqL K H a xs) ∧ LoopG (Itl K a) (gName s) tb D nx σ H := by
  have r0 := r
  obtain ⟨a, vs, Fs, ev, _, _, g, _⟩ := r
  subst ev
  have ini : ∃ y, σ = σ.set s y := ⟨σ[s], (List.set_getElem_self hs).symm⟩
  refine ⟨a, rfl, ⟨vs, .inl (.inl g)⟩, fun i m σ' H' => m = xs.length - i ∧ i ≤ xs.length ∧ Chg F H H' ∧ (yOwn (yLst υ)).rep K H' F (.ref a) (eachTo xs d i) ∧ (∃ y, σ' = σ.set s y), ⟨xs.length, by omega, Nat.zero_le _, Chg.refl H, (by unfold eachTo; exact r0), ini⟩, ?_⟩
  rintro i m σ' H' ⟨rfl, hi, c, r', y', hy⟩
  obtain ⟨a2, vs2, Fs2, e2, eF2, nd2, g2, q2⟩ := r'
  obtain rfl : a = a2 := by injection e2
  have hl2 := (Par3.len q2).1
  rw [eachTo_len hi] at hl2
  by_cases hlt : i < xs.length
  · have hv : vs2[i]? = some (vs2[i]'(by omega)) := List.getElem?_eq_getElem _
    refine .inr ⟨⟨vs2, _, .inl (.inl g2), hv⟩, fun σ2 H2 => i + 1 ≤ xs.length ∧ Chg F H H2 ∧ (yOwn (yLst υ)).rep K H2 F (.ref a) (eachTo xs d (i + 1)) ∧ (∃ y, σ2 = σ.set s y), fun σ2 H2 p' => ⟨xs.length - (i + 1), by omega, rfl, p'⟩, fun x H2 y => ?_⟩
    obtain ⟨rfl, y⟩ := y
    obtain rfl : x = vs2[i]'(by omega) := Option.some.inj ((y _ (.inl (.inl g2))).symm.trans hv)
    have hx := eachTo_get (d := d) hlt
    obtain ⟨u, Fi, hu, hF, ru⟩ := Par3.get q2 hx
    obtain rfl : vs2[i]'(by omega) = u := Option.some.inj (hv.symm.trans hu)
    have hs2 : s < σ'.length := by rw [hy, List.length_set]; exact hs
    have hsz : Mi.app xs[i] d = some (xs[i] ++ [d]) := if_pos (of_decide_eq_true (List.all_eq_true.mp hm _ (List.getElem_mem hlt)))
    refine hb _ _ _ _ (by show (σ'.set s _)[s]? = _; rw [List.getElem?_set_self hs2]) (tyv_lst ru) fun {Q} z => ?_
    refine m_app ru (he _) hsz fun H3 c3 r3 => z H3 ⟨hlt, ?_, ?_, ?_⟩
    · refine c.trans (c3.mono fun b hb => ?_)
      rw [eF2]
      exact List.mem_cons_of_mem _ (List.mem_flatten.mpr ⟨Fi, List.mem_of_getElem? hF, hb⟩)
    · rw [← eachTo_set hlt]
      refine ⟨a, vs2, Fs2, rfl, eF2, nd2, ?_, Par3.setAt q2 hu hF r3 fun m u' Fk x' hm' hFk rk => Ty.chg rk c3 fun b hb hb2 => ?_⟩
      · have ha : a ∉ Fi := fun hb => (List.nodup_cons.mp nd2).1 (List.mem_flatten.mpr ⟨Fi, List.mem_of_getElem? hF, hb⟩)
        exact c3.keep a _ g2 (.inl ha)
      · exact flat_apart (List.nodup_cons.mp nd2).2 hF hFk hm' hb2 hb
    · exact ⟨_, by show σ'.set s _ = _; rw [hy, List.set_set]⟩
  · obtain rfl : i = xs.length := by omega
    refine .inl ⟨⟨vs2, .inl (.inl g2), by omega⟩, hk σ' H' c ⟨a, vs2, Fs2, rfl, eF2, nd2, g2, ?_⟩ ⟨y', hy⟩⟩
    have e : eachTo xs d xs.length = xs.map fun r => r ++ [d] := by
      unfold eachTo
      rw [List.take_length, List.drop_length, List.append_nil]
    rw [← e]; exact q2
end
end G

/-! ### enumerate(tuple, start=c) -/
namespace L2
open PySem PySem.Spec PyProof.Rows
/-- the tuple at a from the count c, each item in a new pair -/
def ItTC (K : PySem.W.Frag) (c : Int) (a : Addr) : It :=
  ⟨fun i H => ∃ (xs : List V) (x : V), SqT K H a xs ∧ xs[i]? = some x, fun i H v H' => ∃ T x, v = .ref T ∧ H T = none ∧ H' = upd H T (.tup [.int (c + (i : Nat)), x]) ∧ ∀ xs, SqT K H a xs → xs[i]? = some x, fun i H => ∃ xs : List V, SqT K H a xs ∧ xs.length ≤ i⟩
theorem turn_enumTC {P : Program} {w : World} {K : PySem.W.Frag} {elts : List Expr} {kk : Nat} {tpos : Pos} (c : Int) (a e it : Addr) :
    Turn P w K (.Tuple elts kk tpos) (ItTC K c a) [e, it] e (fun i h => (∃ old, IsEnum h e it (c + ((i : Nat) : Int)) old) ∧ h.IsTupleIter it a i ∧ e ≠ it) where
  mem := by simp
  obj := fun i h st b hb => by
    obtain ⟨⟨old, he⟩, ⟨o, ho, hc, hd⟩, _⟩ := st
    rcases (show b = e ∨ b = it by simpa using hb) with z | z
    · rw [z]; exact ⟨_, he, fun v q => nomatch q⟩
    · rw [z]; exact ⟨o, ho, fun v q => by rw [hd] at q; cases q⟩
  keep := fun i h h' st k => let ⟨⟨old, he⟩, hi, hne⟩ := st; ⟨⟨old, k e (by simp) _ he⟩, hi.at fun o q => k it (by simp) o q, hne⟩
  item := by
    intro X hP hw hK hc i pins s σ H E I hf st hg
    subst hP hw hK
    obtain ⟨⟨old, hen⟩, hit, hne⟩ := st
    obtain ⟨xs, x, hsq, hx⟩ := hg
    obtain ⟨its, rv, pT, _⟩ := I.tuple hsq
    obtain ⟨u, hu, ru⟩ := rv.get hx
    have hel : e < s.heap.objs.size := Heap.lt_size hen
    have hil : it < s.heap.objs.size := by obtain ⟨_, q, _⟩ := hit; exact Heap.lt_size q
    have hT : s.heap.IsTuple a its.toArray := pT
    have hTo : ∃ o1, s.heap.get? a = some o1 ∧ o1.cls = .type "tuple" := by
      obtain ⟨o, h1, h2, _⟩ := hT; exact ⟨o, h1, h2⟩
    have hai : a ≠ it := fun z => by
      obtain ⟨o1, e1, c1⟩ := hTo
      obtain ⟨o2, e2, c2, _⟩ := hit
      rw [z, e2] at e1
      cases e1
      rw [c1] at c2
      exact absurd c2 (by decide)
    have hea : e ≠ a := fun z => by
      obtain ⟨o1, e1, c1⟩ := hTo
      rw [← z] at e1
      have z2 : s.heap.get? e = _ := hen
      rw [z2] at e1
      cases e1
      exact absurd (show (Value.type "enumerate" : Value) = .type "tuple" from c1) (by decide)
    have hD := Draws.tuple (prog := X.prog) (w := X.w) (A := X.A.in1) (I.ok.hd hc) it a hai its.toArray
    refine wpAny_pyNext_enum_itemC hD hen ⟨hit, hT⟩ (by have := (List.getElem?_eq_some_iff.mp hu).1; simpa using this) hne (by simp [hne, hea]) fun y h' tk hy ho st' hT1 hsz hk => ?_
    obtain rfl : u = y := by
      have hy' : its.toArray[i]? = some y := hy
      rw [List.getElem?_toArray, hu] at hy'
      exact Option.some.inj hy'
    refine ⟨_, rfl, wpAny_letOwnedTupleGo_enum (s := { s with heap := h', toks := tk + 1 }) ho fun h2 he2 sb => ?_⟩
    have hT2 : h2.get? s.heap.objs.size = some { cls := .type "tuple", data := .seq #[.int (c + (i : Nat)) tk, u] } := (sb.2 _ (Nat.ne_of_gt hel)).trans hT1
    have nw : ObjOk X.prog X.w (upd H s.heap.objs.size (.tup [.int (c + (i : Nat)), x])) h2 s.heap.objs.size (.tup [.int (c + (i : Nat)), x]) :=
      ⟨by show 2 ≤ sizeLine; decide, [.int (c + (i : Nat)) tk, u], .cons ⟨_, rfl⟩ (.cons ru .nil), ⟨_, hT2, rfl, _, rfl⟩⟩
    have I1 : Inv X pins σ (upd H s.heap.objs.size (.tup [.int (c + (i : Nat)), x])) { s with heap := h2, toks := tk + 1 } :=
      I.turnedNew (ch := [e, it]) (fun b ob hb q => (sb.2 b (fun z => hb (by simp [z]))).trans (hk b ob (fun z => hb (by simp [z])) (fun z => hb (by simp [z])) q)) hf (Nat.le_refl _) nw
    refine ⟨.ref s.heap.objs.size, _, I1, rfl, ⟨_, x, rfl, I.hok.fresh (Nat.le_refl _), rfl, fun ys hy => by rw [I.tuple_inj hy hsq]; exact hx⟩, ⟨⟨u, ?_⟩, st'.1.at fun o q => (sb.2 it (Ne.symm hne)).trans q, hne⟩, fun b hb => ?_⟩
    · rw [show c + ((i + 1 : Nat) : Int) = c + (i : Int) + 1 by omega]; exact he2
    · have hb' : b < s.heap.objs.size := by
        rcases (show b = e ∨ b = it by simpa using hb) with z | z
        · rw [z]; exact hel
        · rw [z]; exact hil
      rw [upd_ne (Nat.ne_of_lt hb')]
      exact (hf b hb).1
  done := by
    intro X hP hw hK hc i pins s σ H E I hf st hg
    subst hP hw hK
    obtain ⟨⟨old, hen⟩, hit, hne⟩ := st
    obtain ⟨xs, hsq, hx⟩ := hg
    obtain ⟨its, rv, pT, _⟩ := I.tuple hsq
    obtain ⟨f0, f1, f2, f3, f4, f5⟩ := hf it (by simp)
    have hl := rv.length
    have hT : s.heap.IsTuple a its.toArray := pT
    have hTy : s.TypeIs (.ref e) "enumerate" := ⟨_, hen, rfl⟩
    unfold pyNext
    refine wpAny_bind (wpAny_attempt (wpAny_callSpecial?_slot (name := Str.ofString "__next__") hTy F.slot_enumerate_next (wpAny_call_entry F.slot_enumerate_next hTy F.entry_enumerate_next ?_ (F.args_enumerate_next_1 _))))
    show wpAny _ _ (field (.ref e) 2 >>= _) _ _ _
    refine wpAny_bind (wpAny_field hen rfl (x := .ref it) rfl ?_)
    refine wpAny_bind (wpAny_nextOf_tuple_end (I.ok.hd hc) hit hT (by simp; omega) fun h' y eb hy => ?_)
    obtain ⟨o, ho, hcl⟩ := hy
    refine wpAny_bind (wpAny_isInstance (T := "StopIteration") (b := true) ⟨o, ho, hcl⟩ isSubtype_stop ?_)
    exact wpAny_pure ⟨rfl, I.turned (t' := s.toks) (fun b o hb q => eb b o hb q) f0 f1 f3 f4 f5⟩
  self := fun A i s Q E st h => let ⟨⟨_, he⟩, _⟩ := st; wpAny_pyIter_enum he h
def iEnumTC (K : PySem.W.Frag) (c : Int) (ta : TA) : TI := fun σ H R => ta σ H fun vs H1 => ∃ a xs, vs = [.ref a] ∧ SqT K H1 a xs ∧ R (ItTC K c a) H1
theorem pi_enumTC {X : Cx} {K : PySem.W.Frag} {e : Expr} {ta : TA} {p pos tpos kpos cpos : Pos} {j : Nat} {c : Int} {elts : List Expr} {kk : Nat} (hg : Gl X "enumerate") (hm : X.mg "enumerate" = none) (ha : PA X [e] ta) (hK : X.K = K := by rfl) (hs : starEach [e] X.env = [(false, eval e X.env)] := by rfl)
    (hk0 : -(2 ^ 63) ≤ c := by decide) (hk1 : c < 2 ^ 63 := by decide) :
    PI X (.Tuple elts kk tpos) (.Call (.Name "enumerate" p) [e] [⟨some (Str.ofString "start"), .Constant (.int c) j cpos, kpos⟩] pos) (iEnumTC K c ta) := by
  subst hK
  refine ⟨fun pins s σ H R I h => ?_⟩
  refine G.call_kwE (ld_blt I hg hm boot_enumerate (G.cw_typeKw (thn (ha.run pos pins s σ H _ I h) fun us s1 ⟨vs, H1, I1, r1, q1⟩ => ?_) hs))
  have pk : PK X [⟨some (Str.ofString "start"), .Constant (.int c) j cpos, kpos⟩] (tCons (tC (.int c)) tNil) := pk_cons pe_int pk_nil
  have hq : tCons (tC (.int c)) tNil σ H1 (fun ws H2 => ws = [V.int c] ∧ H2 = H1) := by
    show (([V.int c] : List V) = [V.int c] ∧ H1 = H1)
    exact ⟨rfl, rfl⟩
  refine thn (pk.run pos pins s1 σ H1 _ I1 hq) fun kv s2 ⟨ws, H2, I2, r2, e1, e2⟩ => ?_
  subst e1 e2
  obtain ⟨a, xs, rfl, hsq, q⟩ := q1
  cases r1 with
  | cons r rr =>
    cases rr
    cases r
    cases r2 with
    | cons r r2 =>
      cases r2
      obtain ⟨t, rfl⟩ := r
      obtain ⟨its, rv, pT, _⟩ := I2.tuple hsq
      refine enum_begins_start (begins_tuple a its.toArray) pT hk0 hk1 fun h' hen hit hsz hk => wpAny_pyIter_enum hen ?_
      have I3 : Inv X pins σ H2 { s2 with heap := h' } := I2.kept (t' := s2.toks) hk
      refine ⟨s2.heap.objs.size + 1, [s2.heap.objs.size + 1, s2.heap.objs.size], _, _, H2, rfl, I3, turn_enumTC c a (s2.heap.objs.size + 1) s2.heap.objs.size, ⟨⟨.none, ?_⟩, ⟨_, hit, rfl, rfl⟩, Nat.succ_ne_self _⟩, fun b hb => ?_, q⟩
      · rw [show c + ((0 : Nat) : Int) = c by omega]; exact hen
      · have hle : s2.heap.objs.size ≤ b := by
          rcases (show b = s2.heap.objs.size + 1 ∨ b = s2.heap.objs.size by simpa using hb) with z | z
          · rw [z]; exact Nat.le_add_right _ _
          · rw [z]; exact Nat.le_refl _
        exact I2.fpOk hle (I2.hok.fresh hle)
end L2
namespace G
open PySem PySem.Spec PyProof.Rows L2
section
variable {X : Cx} {K : PySem.W.Frag} {σ σ' : L2.St} {H : Hp} {F F1 F2 Fu : List Addr} {ta tb te : TE} {v u x y : V} {i j : Int} {n : Nat} {α β : Type} {τ : Ty α} {υ : Ty β} {Q : VK} {D : Ends} {t1 t2 : TS} {g : TG} {ws : List Nat}
/-! ### enumerate from a count -/
theorem w_iEnumTC {ts : TA} {c : Int} {R : It → Hp → Prop} (h : ts σ H fun vs H1 => ∃ a xs, vs = [.ref a] ∧ SqT K H1 a xs ∧ R (ItTC K c a) H1) : iEnumTC K c ts σ H R := h
theorem l_enumTC {tb : TS} {nx : L2.St → Hp → Prop} {xs : List α} {c : Int} {i1 i2 : Nat} (r : (yTupL τ).rep K H F v xs) (Pv : Nat → L2.St → Hp → Prop) (h0 : Pv 0 σ H) (hl : ∀ i σ' H', Pv i σ' H' → (yTupL τ).rep K H' F v xs)
    (hs : ∀ (i : Nat) (x : Int × α) (u : V) σ' H' H2, (Mi.enumF c xs)[i]? = some x → Chg [] H' H2 → τ.rep K H2 [] u x.2 → Pv i σ' H' → tb { D with nx := Pv (i + 1), ct := Pv (i + 1), bk := nx } ((σ'.set i1 (some (.int x.1))).set i2 (some u)) H2) (hd : ∀ σ' H', Pv (Mi.enumF c xs).length σ' H' → nx σ' H') :
    ∃ a xs, [v] = [.ref a] ∧ SqT K H a xs ∧ LoopG (ItTC K c a) (gTup K 2 (gCons (gName i1) (gCons (gName i2) gNil))) tb D nx σ H := by
  obtain ⟨a, vs, rfl, s, q⟩ := tupl_sq r
  refine ⟨a, vs, rfl, s, fun i m σ' H' => m = xs.length - i ∧ i ≤ xs.length ∧ Pv i σ' H', ⟨xs.length, by omega, Nat.zero_le _, h0⟩, ?_⟩
  rintro i m σ' H' ⟨rfl, hi, p⟩
  obtain ⟨a', vs', e', s', q'⟩ := tupl_sq (hl i σ' H' p)
  obtain rfl := V.ref.inj e'
  by_cases hlt : i < xs.length
  · obtain ⟨u, hu, ru⟩ := pr_get q' (List.getElem?_eq_getElem hlt)
    refine .inr ⟨⟨vs', u, s', hu⟩, Pv (i + 1), fun σ2 H2 p' => ⟨xs.length - (i + 1), by omega, rfl, hlt, p'⟩, fun x H2 y => ?_⟩
    obtain ⟨T, w, rfl, nT, rfl, y⟩ := y
    obtain rfl : w = u := Option.some.inj ((y _ s').symm.trans hu)
    have hx := enumF_at c xs i (List.getElem?_eq_getElem hlt)
    have cg : Chg [] H' (upd H' T (.tup [.int (c + (i : Nat)), w])) := Chg.lay nT trivial
    have h := hs i _ w σ' H' _ hx cg (Ty.ex ru cg) p
    exact ⟨T, _, rfl, .inl (.inl upd_same), rfl, _, _, rfl, _, _, rfl, rfl, h⟩
  · obtain rfl : i = xs.length := by omega
    exact .inl ⟨⟨vs', s', by rw [pr_len q']; exact Nat.le_refl _⟩, hd σ' H' (by rw [enumF_len]; exact p)⟩
theorem l_enumTN {tb : TS} {nx : L2.St → Hp → Prop} {xs : List α} {c : Int} {i1 : Nat} {g2 : TG} (r : (yTupL τ).rep K H F v xs) (Pv : Nat → L2.St → Hp → Prop) (h0 : Pv 0 σ H) (hl : ∀ i σ' H', Pv i σ' H' → (yTupL τ).rep K H' F v xs)
    (hs : ∀ (i : Nat) (x : Int × α) (u : V) σ' H' H2, (Mi.enumF c xs)[i]? = some x → Chg [] H' H2 → τ.rep K H2 [] u x.2 → Pv i σ' H' → g2 u (σ'.set i1 (some (.int x.1))) H2 (fun σ2 H3 => ([] : List V) = [] ∧ tb { D with nx := Pv (i + 1), ct := Pv (i + 1), bk := nx } σ2 H3)) (hd : ∀ σ' H', Pv (Mi.enumF c xs).length σ' H' → nx σ' H') :
    ∃ a xs, [v] = [.ref a] ∧ SqT K H a xs ∧ LoopG (ItTC K c a) (gTup K 2 (gCons (gName i1) (gCons g2 gNil))) tb D nx σ H := by
  obtain ⟨a, vs, rfl, s, q⟩ := tupl_sq r
  refine ⟨a, vs, rfl, s, fun i m σ' H' => m = xs.length - i ∧ i ≤ xs.length ∧ Pv i σ' H', ⟨xs.length, by omega, Nat.zero_le _, h0⟩, ?_⟩
  rintro i m σ' H' ⟨rfl, hi, p⟩
  obtain ⟨a', vs', e', s', q'⟩ := tupl_sq (hl i σ' H' p)
  obtain rfl := V.ref.inj e'
  by_cases hlt : i < xs.length
  · obtain ⟨u, hu, ru⟩ := pr_get q' (List.getElem?_eq_getElem hlt)
    refine .inr ⟨⟨vs', u, s', hu⟩, Pv (i + 1), fun σ2 H2 p' => ⟨xs.length - (i + 1), by omega, rfl, hlt, p'⟩, fun x H2 y => ?_⟩
    obtain ⟨T, w, rfl, nT, rfl, y⟩ := y
    obtain rfl : w = u := Option.some.inj ((y _ s').symm.trans hu)
    have hx := enumF_at c xs i (List.getElem?_eq_getElem hlt)
    have cg : Chg [] H' (upd H' T (.tup [.int (c + (i : Nat)), w])) := Chg.lay nT trivial
    have h := hs i _ w σ' H' _ hx cg (Ty.ex ru cg) p
    exact ⟨T, _, rfl, .inl (.inl upd_same), rfl, _, _, rfl, _, _, rfl, h⟩
  · obtain rfl : i = xs.length := by omega
    exact .inl ⟨⟨vs', s', by rw [pr_len q']; exact Nat.le_refl _⟩, hd σ' H' (by rw [enumF_len]; exact p)⟩
end
end G

/-! ### zip(tuple, list) -/
namespace L2
open PySem PySem.Spec PyProof.Rows
/-- a tuple at a and a list at b, turn by turn -/
def ItzM (K : PySem.W.Frag) (a b : Addr) : It :=
  ⟨fun i H => ∃ (xs ys : List V) (x y : V), SqT K H a xs ∧ SqL K H b ys ∧ xs[i]? = some x ∧ ys[i]? = some y,
    fun i H v H' => ∃ T x y, v = .ref T ∧ H T = none ∧ H' = upd H T (.tup [x, y]) ∧ (∀ xs, SqT K H a xs → xs[i]? = some x) ∧ ∀ ys, SqL K H b ys → ys[i]? = some y,
    fun i H => ∃ xs ys : List V, SqT K H a xs ∧ SqL K H b ys ∧ i ≤ xs.length ∧ i ≤ ys.length ∧ (i = xs.length ∨ i = ys.length)⟩
theorem turn_zipM {P : Program} {w : World} {K : PySem.W.Frag} {elts : List Expr} {kk : Nat} {tpos : Pos} {a b z TI TO i1 i2 : Addr} (D : ZipSep2 z TI TO i1 i2 [i1, a] [i2, b]) (ha : a ≠ i1) (hb : b ≠ i2) :
    Turn P w K (.Tuple elts kk tpos) (ItzM K a b) [z, TI, TO, i1, i2] z (fun i h => IsZip h z TI TO .none ∧ IsTupOf2 h TI (.ref i1) (.ref i2) ∧ (∃ x y, IsTupOf2 h TO x y) ∧ h.IsTupleIter i1 a i ∧ h.IsListIter i2 b i) where
  mem := by simp
  obj := fun i h st c hc => by
    obtain ⟨hz, hTI, ⟨x, y, hTO⟩, ⟨o1, e1, _, d1⟩, ⟨o2, e2, _, d2⟩⟩ := st
    have e' : c = z ∨ c = TI ∨ c = TO ∨ c = i1 ∨ c = i2 := by simpa using hc
    rcases e' with q | q | q | q | q
    · rw [q]; exact ⟨_, hz, fun v q => nomatch q⟩
    · rw [q]; exact ⟨_, hTI, fun v q => nomatch q⟩
    · rw [q]; exact ⟨_, hTO, fun v q => nomatch q⟩
    · rw [q]; exact ⟨o1, e1, fun v q => by rw [d1] at q; cases q⟩
    · rw [q]; exact ⟨o2, e2, fun v q => by rw [d2] at q; cases q⟩
  keep := fun i h h' st k => by
    obtain ⟨hz, hTI, ⟨x, y, hTO⟩, h1, h2⟩ := st
    exact ⟨k z (by simp) _ hz, k TI (by simp) _ hTI, ⟨x, y, k TO (by simp) _ hTO⟩, h1.at fun o q => k i1 (by simp) o q, h2.at fun o q => k i2 (by simp) o q⟩
  item := by
    intro X hP hw hK hc i pins s σ H E I hf st hg
    subst hP hw hK
    obtain ⟨hz, hTI, ⟨x0, y0, hTO⟩, h1, h2⟩ := st
    obtain ⟨xs, ys, x, y, hqx, hqy, hx, hy⟩ := hg
    obtain ⟨its, rv, p, _⟩ := I.tuple hqx
    obtain ⟨its2, rv2, p2, _⟩ := I.list hqy
    obtain ⟨u, hu, ru⟩ := rv.get hx
    obtain ⟨u2, hu2, ru2⟩ := rv2.get hy
    have hzl : z < s.heap.objs.size := Heap.lt_size hz
    have hT : s.heap.IsTuple a its.toArray := p
    have hL : s.heap.IsList b its2.toArray := p2.isList
    have D1 := Draws.tuple (prog := X.prog) (w := X.w) (A := X.A.in1) (I.ok.hd hc) i1 a ha its.toArray
    have D2 := Draws.list (prog := X.prog) (w := X.w) (A := X.A.in1) (I.ok.hd hc) i2 b hb its2.toArray
    have n1 : i < its.length := (List.getElem?_eq_some_iff.mp hu).1
    have n2 : i < its2.length := (List.getElem?_eq_some_iff.mp hu2).1
    refine wpAny_pyNext_zipD2_item D D1 D2 hz hTI hTO ⟨h1, hT⟩ ⟨h2, hL⟩ (by simpa using n1) (by simpa using n2) fun v1 v2 h' tk q1 q2 z' TO' s1' s2' hT' hsz hk => ?_
    obtain rfl : u = v1 := by
      have q1 : its.toArray[i]? = some v1 := q1
      rw [List.getElem?_toArray, hu] at q1
      exact Option.some.inj q1
    obtain rfl : u2 = v2 := by
      have q2 : its2.toArray[i]? = some v2 := q2
      rw [List.getElem?_toArray, hu2] at q2
      exact Option.some.inj q2
    refine ⟨_, rfl, wpAny_letOwnedTupleGo_zip (s := { s with heap := h', toks := tk }) z' fun h'' z'' sb => ?_⟩
    have hT2 : h''.get? s.heap.objs.size = some { cls := .type "tuple", data := .seq #[u, u2] } := (sb.2 _ (Nat.ne_of_gt hzl)).trans hT'
    have new : ObjOk X.prog X.w (upd H s.heap.objs.size (.tup [x, y])) h'' s.heap.objs.size (.tup [x, y]) :=
      ⟨by show 2 ≤ sizeLine; decide, [u, u2], .cons ru (.cons ru2 .nil), ⟨_, hT2, rfl, _, rfl⟩⟩
    have I1 : Inv X pins σ (upd H s.heap.objs.size (.tup [x, y])) { s with heap := h'', toks := tk } :=
      I.turnedNew (t' := tk) (ch := [z, TI, TO, i1, i2]) (fun c o hb q => (sb.2 c (fun q' => hb (by simp [q']))).trans (hk c o (fun q' => hb (by simp [q'])) (fun q' => hb (by simp [q'])) (fun q' => hb (by simp [q'])) (fun q' => hb (by simp [q'])) q)) hf (Nat.le_refl _) new
    refine ⟨.ref s.heap.objs.size, _, I1, rfl, ⟨_, x, y, rfl, I.hok.fresh (Nat.le_refl _), rfl, fun l hl => by rw [I.tuple_inj hl hqx]; exact hx, fun l hl => by rw [I.list_inj hl hqy]; exact hy⟩, ⟨z'', ?_, ⟨u, u2, ?_⟩, ?_, ?_⟩, fun c hcm => ?_⟩
    · exact (sb.2 _ D.TIz).trans (hk _ _ D.TIz D.TITO D.TIi1 D.TIi2 hTI)
    · exact (sb.2 _ D.TOz).trans TO'
    · exact s1'.1.at fun o q => (sb.2 _ (Ne.symm D.zi1)).trans q
    · exact s2'.1.at fun o q => (sb.2 _ (Ne.symm D.zi2)).trans q
    · have hlt : c < s.heap.objs.size := by
        have e' : c = z ∨ c = TI ∨ c = TO ∨ c = i1 ∨ c = i2 := by simpa using hcm
        rcases e' with q | q | q | q | q
        · rw [q]; exact hzl
        · rw [q]; exact Heap.lt_size hTI
        · rw [q]; exact Heap.lt_size hTO
        · rw [q]; obtain ⟨_, e1, _⟩ := h1; exact Heap.lt_size e1
        · rw [q]; obtain ⟨_, e2, _⟩ := h2; exact Heap.lt_size e2
      rw [upd_ne (Nat.ne_of_lt hlt)]
      exact (hf c hcm).1
  done := by
    intro X hP hw hK hc i pins s σ H E I hf st hg
    subst hP hw hK
    obtain ⟨hz, hTI, ⟨x0, y0, hTO⟩, h1, h2⟩ := st
    obtain ⟨xs, ys, hqx, hqy, g1, g2, hend⟩ := hg
    obtain ⟨its, rv, p, _⟩ := I.tuple hqx
    obtain ⟨its2, rv2, p2, _⟩ := I.list hqy
    have l1 := rv.length
    have l2 := rv2.length
    have hT : s.heap.IsTuple a its.toArray := p
    have hL : s.heap.IsList b its2.toArray := p2.isList
    have D1 := Draws.tuple (prog := X.prog) (w := X.w) (A := X.A.in1) (I.ok.hd hc) i1 a ha its.toArray
    have D2 := Draws.list (prog := X.prog) (w := X.w) (A := X.A.in1) (I.ok.hd hc) i2 b hb its2.toArray
    exact wpAny_pyNext_zipD2_end D D1 D2 hz hTI hTO ⟨h1, hT⟩ ⟨h2, hL⟩ (by simp; omega) (by simp; omega) (by simp; omega) fun h' tk hk => ⟨rfl, I.turnedL (t' := tk) (ch := [z, TI, TO, i1, i2]) (fun c o hb q =>
      hk c o (fun q' => hb (by simp [q'])) (fun q' => hb (by simp [q'])) (fun q' => hb (by simp [q'])) (fun q' => hb (by simp [q'])) q) hf⟩
  self := fun A i s Q E st h => wpAny_pyIter_zip st.1 h
theorem a_ne {x y : Nat} (h : x ≠ y) : @Ne Addr x y := h
theorem a_nm {x p q : Nat} (h1 : x ≠ p) (h2 : x ≠ q) : (x : Addr) ∉ ([p, q] : List Addr) := fun h => by
  rcases List.mem_cons.mp h with h | h
  · exact h1 h
  · exact h2 (List.mem_singleton.mp h)
theorem sep_new (n a b : Nat) (la : a < n) (lb : b < n) : ZipSep2 (n + 4) (n + 2) (n + 3) n (n + 1) [n, a] [n + 1, b] where
  TIz := a_ne (by omega)
  TOz := a_ne (by omega)
  TITO := a_ne (by omega)
  TIi1 := a_ne (by omega)
  mem1 := List.mem_cons_self ..
  zf1 := a_nm (by omega) (by omega)
  Tf1 := a_nm (by omega) (by omega)
  TIi2 := a_ne (by omega)
  mem2 := List.mem_cons_self ..
  zf2 := a_nm (by omega) (by omega)
  Tf2 := a_nm (by omega) (by omega)
  sep1_2 := a_nm (by omega) (by omega)
  sep2_1 := a_nm (by omega) (by omega)
def iZipM (K : PySem.W.Frag) (ta : TA) : TI := fun σ H R => ta σ H fun vs H1 => ∃ a b xs ys, vs = [.ref a, .ref b] ∧ SqT K H1 a xs ∧ SqL K H1 b ys ∧ R (ItzM K a b) H1
theorem pi_zipM {X : Cx} {K : PySem.W.Frag} {e e2 : Expr} {ta : TA} {p pos tpos : Pos} {elts : List Expr} {kk : Nat} (hg : Gl X "zip") (hm : X.mg "zip" = none) (ha : PA X [e, e2] ta) (hK : X.K = K := by rfl)
    (hs : starEach [e, e2] X.env = (false, eval e X.env) :: starEach [e2] X.env := by rfl) (hpl : (backTo pos (starEach [e2] X.env)).any (·.1) = false := by rfl) :
    PI X (.Tuple elts kk tpos) (.Call (.Name "zip" p) [e, e2] [] pos) (iZipM K ta) := by
  subst hK
  refine ⟨fun pins s σ H R I h => ?_⟩
  refine Call_ (ld_blt I hg hm PyProof.Rows.boot_zip (PyProof.Rows.callWith_type1 (thn (ha.run pos pins s σ H _ I h) fun us s1 ⟨vs, H1, I1, r1, q1⟩ => ?_) hs hpl))
  obtain ⟨a, b, xs, ys, ex, hqx, hqy, q⟩ := q1
  subst ex
  cases r1 with
  | cons r rr =>
    cases rr with
    | cons r' rr =>
      cases rr
      cases r
      cases r'
      obtain ⟨its, rv, p1, _⟩ := I1.tuple hqx
      obtain ⟨its2, rv2, p2, _⟩ := I1.list hqy
      have hT : s1.heap.IsTuple a its.toArray := p1
      have hL : s1.heap.IsList b its2.toArray := p2.isList
      obtain ⟨o1, ho1, _⟩ := id hT
      obtain ⟨o2, ho2, _⟩ := id hL
      have la : a < s1.heap.objs.size := Heap.lt_size ho1
      have lb : b < s1.heap.objs.size := Heap.lt_size ho2
      refine zip_begins2 (begins_tuple a its.toArray) (begins_list b its2.toArray) hT hL fun h' hz hTI hTO h1 h2 hsz hk => wpAny_pyIter_zip hz ?_
      have I2 : Inv X pins σ H1 { s1 with heap := h' } := I1.kept (t' := s1.toks) hk
      have D : ZipSep2 (s1.heap.objs.size + 4) (s1.heap.objs.size + 2) (s1.heap.objs.size + 3) s1.heap.objs.size (s1.heap.objs.size + 1) [s1.heap.objs.size, a] [s1.heap.objs.size + 1, b] := by
        exact sep_new _ a b la lb
      refine ⟨s1.heap.objs.size + 4, [s1.heap.objs.size + 4, s1.heap.objs.size + 2, s1.heap.objs.size + 3, s1.heap.objs.size, s1.heap.objs.size + 1], _, _, H1, rfl, I2, turn_zipM D (Nat.ne_of_lt la) (Nat.ne_of_lt (Nat.lt_succ_of_lt lb)), ⟨hz, hTI, ⟨_, _, hTO⟩, ⟨_, h1, rfl, rfl⟩, ⟨_, h2, rfl, rfl⟩⟩, fun c hcm => ?_, q⟩
      have e' : c = s1.heap.objs.size + 4 ∨ c = s1.heap.objs.size + 2 ∨ c = s1.heap.objs.size + 3 ∨ c = s1.heap.objs.size ∨ c = s1.heap.objs.size + 1 := by simpa using hcm
      have hle : s1.heap.objs.size ≤ c := by
        rcases e' with q | q | q | q | q
        · rw [q]; exact Nat.le_add_right _ _
        · rw [q]; exact Nat.le_add_right _ _
        · rw [q]; exact Nat.le_add_right _ _
        · rw [q]; exact Nat.le_refl _
        · rw [q]; exact Nat.le_add_right _ _
      exact I1.fpOk hle (I1.hok.fresh hle)
end L2
namespace G
open PySem PySem.Spec PyProof.Rows L2
section
variable {K : PySem.W.Frag} {σ σ' : L2.St} {H : Hp} {F F1 F2 Fu : List Addr} {ta tb te : TE} {v u x y : V} {i j : Int} {α β : Type} {τ : Ty α} {υ : Ty β} {Q : VK} {D : Ends}
def RdT (K : PySem.W.Frag) (R : Hp → Nat → V → Prop) (n : Nat) (H : Hp) (v : V) : Prop := ∃ a vs, v = .ref a ∧ SqT K H a vs ∧ vs.length = n ∧ ∀ j u, vs[j]? = some u → R H j u
theorem rd_tup {xs : List α} {n : Nat} (hn : xs.length = n) (r : (yTupL τ).rep K H F v xs) : RdT K (RdL K τ xs) n H v := by
  obtain ⟨a, vs, e, s, q⟩ := tupl_sq r
  exact ⟨a, vs, e, s, by rw [pr_len q]; exact hn, fun j u hu => by obtain ⟨x, h1, h2⟩ := pr_getL q hu; exact ⟨x, h1, h2⟩⟩
theorem w_iZipM {ts : TA} {R : It → Hp → Prop} (h : ts σ H fun vs H1 => ∃ a b xs ys, vs = [.ref a, .ref b] ∧ SqT K H1 a xs ∧ SqL K H1 b ys ∧ R (ItzM K a b) H1) : iZipM K ts σ H R := h
theorem l_zipM {R1 R2 : Hp → Nat → V → Prop} {n : Nat} {w : V} {tb : TS} {nx : L2.St → Hp → Prop} {i1 i2 : Nat} (r1 : RdT K R1 n H v) (r2 : Rd K R2 n H w) (Pv : Nat → L2.St → Hp → Prop) (h0 : Pv 0 σ H) (hl : ∀ i σ' H', Pv i σ' H' → RdT K R1 n H' v ∧ Rd K R2 n H' w)
    (hs : ∀ (i : Nat) (u z : V) σ' H' H2, R1 H' i u → R2 H' i z → Chg [] H' H2 → Pv i σ' H' → tb { D with nx := Pv (i + 1), ct := Pv (i + 1), bk := nx } ((σ'.set i1 (some u)).set i2 (some z)) H2) (hd : ∀ σ' H', Pv n σ' H' → nx σ' H') :
    ∃ a b xs ys, [v, w] = [.ref a, .ref b] ∧ SqT K H a xs ∧ SqL K H b ys ∧ LoopG (ItzM K a b) (gTup K 2 (gCons (gName i1) (gCons (gName i2) gNil))) tb D nx σ H := by
  obtain ⟨a, vs, rfl, s, lv, _⟩ := r1
  obtain ⟨b, ws, rfl, s2, lw, _⟩ := r2
  refine ⟨a, b, vs, ws, rfl, s, s2, fun i m σ' H' => m = n - i ∧ i ≤ n ∧ Pv i σ' H', ⟨n, by omega, Nat.zero_le _, h0⟩, ?_⟩
  rintro i m σ' H' ⟨rfl, hi, p⟩
  obtain ⟨⟨a', vs', e', s', lv', q1⟩, ⟨b', ws', e2', s2', lw', q2⟩⟩ := hl i σ' H' p
  obtain rfl := V.ref.inj e'
  obtain rfl := V.ref.inj e2'
  by_cases hlt : i < n
  · have hx : vs'[i]? = some vs'[i] := List.getElem?_eq_getElem (by omega)
    have hy : ws'[i]? = some ws'[i] := List.getElem?_eq_getElem (by omega)
    refine .inr ⟨⟨vs', ws', _, _, s', s2', hx, hy⟩, Pv (i + 1), fun σ2 H2 p' => ⟨n - (i + 1), by omega, rfl, hlt, p'⟩, fun x H2 y => ?_⟩
    obtain ⟨T, x', y', rfl, nT, rfl, f1, f2⟩ := y
    have ex := f1 _ s'
    have ey := f2 _ s2'
    have c : Chg [] H' (upd H' T (.tup [x', y'])) := Chg.lay nT trivial
    have h := hs i x' y' σ' H' _ (q1 i x' ex) (q2 i y' ey) c p
    exact ⟨T, _, rfl, .inl (.inl upd_same), rfl, _, _, rfl, _, _, rfl, rfl, h⟩
  · obtain rfl : i = n := by omega
    exact .inl ⟨⟨vs', ws', s', s2', by omega, by omega, .inl (by omega)⟩, hd σ' H' p⟩
end
end G

/-! ### the rows of an own list, frozen by a ghost step ahead of a statement or behind it -/
namespace G
open PySem PySem.Spec PyProof.Rows L2
theorem inv_frz {X : Cx} {pins : List (Addr × Obj)} {σ : L2.St} {H1 : Hp} {s1 : Shared} {a : Addr} {xs : List V} (I1 : Inv X pins σ H1 s1) (ha : H1 a = some (.lst xs)) : ∃ o, Inv X pins σ (upd H1 a (.frz o (.lst xs))) s1 := by
  obtain ⟨z, its, n, rv, e⟩ := (show ObjOk X.prog X.w H1 s1.heap a (.lst xs) from I1.hok a _ ha)
  refine ⟨{ cls := .type "list", data := .seq its.toArray n }, ?_⟩
  have ne : ∀ b u, H1 b = some u → u ≠ .lst xs → b ≠ a := fun b u hb hu z => by rw [z, ha] at hb; exact hu (Option.some.inj hb).symm
  refine I1.un (t' := s1.toks) (h' := s1.heap) ⟨fun b o q _ _ _ => q, fun b o q _ _ _ => ⟨o.slots, q⟩, fun b o q n _ => ?_, fun b o q _ => ⟨o, q⟩, fun b ys q => ?_, fun b o u q => ?_, fun b ps q => ⟨#[], ?_⟩⟩ fun b u q => ?_
  · rw [upd_ne (fun z => by rw [z, ha] at n; cases n)]; exact n
  · rw [upd_ne (ne b _ q (fun z => nomatch z))]; exact q
  · rw [upd_ne (ne b _ q (fun z => nomatch z))]; exact q
  · rw [upd_ne (ne b _ q (fun z => nomatch z)), q]; simp
  · by_cases hb : b = a
    · subst hb; rw [upd_same] at q; cases q
      exact ⟨e, z, its, n, rv, e⟩
    · rw [upd_ne hb] at q
      exact (I1.hok b u q).stay (fun c v _ q => q) (fun c q => by rw [upd_ne (ne c _ q (fun z => nomatch z))]; exact q) fun c ys q => by rw [upd_ne (ne c _ q (fun z => nomatch z))]; exact q
/-- these lists are frozen, then P -/
def GFz (P : Hp → Prop) : List Addr → Hp → Prop
  | [], H => P H
  | a :: as, H => ∃ xs, H a = some (.lst xs) ∧ ∀ o, GFz P as (upd H a (.frz o (.lst xs)))
theorem inv_gfz {X : Cx} {pins : List (Addr × Obj)} {σ : L2.St} {s1 : Shared} {P : Hp → Prop} : ∀ {as : List Addr} {H : Hp}, Inv X pins σ H s1 → GFz P as H → ∃ H', Inv X pins σ H' s1 ∧ P H'
  | [], H, I, h => ⟨H, I, h⟩
  | a :: as, H, I, ⟨xs, ha, h⟩ => by
    obtain ⟨o, I2⟩ := inv_frz I ha
    exact inv_gfz I2 (h o)
def tGz (t : TS) : TS := fun D σ H => ∃ as, GFz (fun H' => t D σ H') as H
def tPost (t : TS) : TS := fun D σ H => t { D with nx := fun σ' H' => ∃ as, GFz (fun H2 => D.nx σ' H2) as H' } σ H
theorem ps_pre {X : Cx} {st : Stmt} {t : TS} (h : PS X st t) : PS X st (tGz t) := ⟨fun pins s σ H D I ⟨as, hg⟩ => by
  obtain ⟨H', I2, q⟩ := inv_gfz I hg
  exact h.run pins s σ H' D I2 q⟩
theorem ps_post {X : Cx} {st : Stmt} {t : TS} (h : PS X st t) : PS X st (tPost t) := ⟨fun pins s σ H D I hq => thn (h.run pins s σ H _ I hq) fun f s' q => by
  cases f with
  | next =>
    obtain ⟨σ', H', I2, as, hg⟩ := q
    obtain ⟨H2, I3, q2⟩ := inv_gfz I2 hg
    exact ⟨σ', H2, I3, q2⟩
  | ret v => exact q
  | brk => exact q
  | cont => exact q⟩
section
variable {K : PySem.W.Frag} {σ σ' : L2.St} {H : Hp} {F F1 F2 Fu G : List Addr} {ta tb te : TE} {v u x y e : V} {i j : Int} {α β : Type} {τ : Ty α} {υ : Ty β} {Q : VK} {D : Ends} {t1 t2 : TS}
theorem q_pre (h : tGz (tSeq t1 t2) D σ H) : tSeq (tGz t1) t2 D σ H := h
theorem q_post (h : tSeq t1 (tGz t2) D σ H) : tSeq (tPost t1) t2 D σ H := h
theorem frz_all {P : Hp → Prop} : ∀ {vs : List V} {Fs : List (List Addr)} {xs : List (List β)} {H : Hp}, Par3 (fun u Fi x => (yLst υ).rep K H Fi u x) vs Fs xs → Fs.flatten.Nodup → (∀ H', Chg Fs.flatten H H' → Paired (fun u x => (yFl υ).rep K H' [] u x) vs xs → P H') → GFz P Fs.flatten H
  | _, _, _, H, .nil, _, k => k H (Chg.refl H) .nil
  | _, _, _, H, .cons (u := u) (Fi := Fi) r t, nd, k => by
    obtain ⟨p, ws, rfl, rfl, g, q⟩ := r
    have nd2 := List.nodup_cons.mp (show (p :: List.flatten _).Nodup from nd)
    refine ⟨ws, g, fun o => ?_⟩
    have c : Chg [p] H (upd H p (.frz o (.lst ws))) := Chg.wr g (fun z => z)
    refine frz_all (Par3.mapP t fun u Fi x m z => Ty.chg z c fun b hb hb2 => ?_) nd2.2 fun H' c2 ps => k H' ?_ (.cons ?_ ps)
    · rw [List.mem_singleton] at hb2
      subst hb2
      exact nd2.1 (List.mem_flatten.mpr ⟨Fi, m, hb⟩)
    · exact (c.mono fun b hb => by rw [List.mem_singleton] at hb; subst hb; exact List.mem_cons_self ..).trans (c2.mono fun b hb => List.mem_cons_of_mem _ hb)
    · have r1 : (yFl υ).rep K (upd H p (.frz o (.lst ws))) [] (.ref p) _ := ⟨rfl, p, ws, o, rfl, upd_same, Paired.mapP q fun u x z => Ty.fz z c⟩
      exact Ty.fz r1 c2
theorem g_frzO {P : Hp → Prop} {xs : List (List β)} (r : (yOwn (yLst υ)).rep K H F v xs) (k : ∀ p H', Sub [p] F → Chg F H H' → (yLst (yFl υ)).rep K H' [p] v xs → P H') : ∃ as, GFz P as H := by
  obtain ⟨a, vs, Fs, rfl, rfl, nd, g, q⟩ := r
  have nd2 := List.nodup_cons.mp nd
  refine ⟨_, frz_all q nd2.2 fun H' c ps => k a H' (fun b hb => by rw [List.mem_singleton] at hb; subst hb; exact List.mem_cons_self ..) (c.mono fun b hb => List.mem_cons_of_mem _ hb) ⟨a, vs, rfl, rfl, c.keep a _ g (.inl nd2.1), ps⟩⟩
/-- xs.insert(i, y) -/
def rIns : V → List V → Hp → VK → Prop := fun x vs H Q => ∃ (l : Addr) (xs : List V) (i : Int) (y : V), x = .ref l ∧ vs = [.int i, y] ∧ H l = some (.lst xs) ∧ xs.length < sizeLine ∧ 0 ≤ i ∧ i < 2 ^ 63 ∧
    Q .non (upd H l (.lst (xs.take i.toNat ++ [y] ++ xs.drop i.toNat)))
theorem mt_ins {X : Cx} : MtR X "list.insert" rIns := mt_insert
theorem m_ins {xs : List α} {d : α} {z : Unit} (r : (yLst τ).rep K H F v xs) (ru : τ.rep K H [] u d) (hz : Mi.guardO (decide (0 ≤ i ∧ i < 2 ^ 63) && decide (xs.length < Mi.big)) = some z)
    (k : ∀ H', Chg F H H' → (yLst τ).rep K H' F v (xs.take i.toNat ++ [d] ++ xs.drop i.toNat) → Q .non H') : rIns v [.int i, u] H Q := by
  obtain ⟨h1, h2⟩ := okB hz
  have h1 := of_decide_eq_true h1
  have h2 := of_decide_eq_true h2
  obtain ⟨p, vs, rfl, rfl, g, q⟩ := r
  have c : Chg [p] H (upd H p (.lst (vs.take i.toNat ++ [u] ++ vs.drop i.toNat))) := Chg.wr g (fun z => z)
  have q2 := Paired.mapP q fun _ _ z => Ty.fz z c
  exact ⟨p, vs, i, u, rfl, rfl, g, Nat.lt_of_lt_of_le (by rw [pr_len q]; exact h2) line_big, h1.1, h1.2, k _ c ⟨p, _, rfl, rfl, upd_same, pr_app (pr_app (pr_take _ q2) (.cons (Ty.fz ru c) .nil)) (pr_drop _ q2)⟩⟩
end
end G

/-! ### == of like kinds that hold texts -/
namespace G
open PySem PySem.Spec PyProof.Rows L2
section
variable {K : PySem.W.Frag} {H : Hp} {F1 F2 : List Addr} {v w' : V} {Q : VK} {α : Type} {n m : Nat} {x y : α}
theorem w_eqO2 [i : DecidableEq α] {τ υ : Ty α} {z : Unit} (d : DatO τ n) (d2 : DatO υ m) (e : ∀ x, d2.f x = d.f x) (r : τ.rep K H F1 v x) (q : υ.rep K H F2 w' y) (g : Mi.guardO (d.ok x && d.ok y) = some z) (k : Q (.bl (decide (x = y))) H) (hn : n ≤ 64 := by decide) : rEqD K v w' H Q :=
  ⟨_, _, d.dp r, e y ▸ d2.dp q, d.shaped hn x (okB g).1, d.shaped hn y (okB g).2, by
    have e : @decide (x = y) (d.dec x y) = @decide (x = y) (i x y) := by congr
    rw [d.eqv, e]; exact k⟩
theorem w_neO2 [i : DecidableEq α] {τ υ : Ty α} {z : Unit} (d : DatO τ n) (d2 : DatO υ m) (e : ∀ x, d2.f x = d.f x) (r : τ.rep K H F1 v x) (q : υ.rep K H F2 w' y) (g : Mi.guardO (d.ok x && d.ok y) = some z) (k : Q (.bl (!decide (x = y))) H) (hn : n ≤ 64 := by decide) : rNeD K v w' H Q :=
  ⟨_, _, d.dp r, e y ▸ d2.dp q, d.shaped hn x (okB g).1, d.shaped hn y (okB g).2, by
    have e : @decide (x = y) (d.dec x y) = @decide (x = y) (i x y) := by congr
    rw [d.eqv, e]; exact k⟩
end
end G

/-! ### the head: dicts of the module beside errors -/
namespace G
open PySem PySem.Spec PyProof.Rows L2
abbrev AlXT : Type := He.AlT × Bool × List FnN
def obsXTG (n : Nat) (fa : List He.Fa) (fn : List He.DefD) (ts : List He.Tab) (ex : PySem.W.Frag → Bool) (file : Str) (er : List ErrD) (g : Addr → Option Obj) : AlXT := (He.obsT fa fn ts (frX n g), ex (frX n g) && er.all (fun d => d.ok (frX n g) file), er.map fun d => fnN (frX n g) (d.x, some "__init__"))
def hookXT (n : Nat) (fa : List He.Fa) (fn : List He.DefD) (ts : List He.Tab) (ex : PySem.W.Frag → Bool) (file : Str) (er : List ErrD) : PySem.W.Hook where
  α := AlXT
  obs := fun s => obsXTG n fa fn ts ex file er s.heap.get?
  val := fun w => (He.valT fn ts w, true, er.map ErrD.val)
  says := fun w h => ∃ K : PySem.W.Frag, K.In h ∧ (He.SaysT fa fn ts w K ∧ SaysX fa fn ex file er K)
  of := fun _ _ e =>
    have t := congrArg Prod.fst e
    ⟨_, He.frG_in, t, He.SaysT.d t, (He.ba (congrArg (fun z : AlXT => z.2.1) e)).1, (He.ba (congrArg (fun z : AlXT => z.2.1) e)).2, congrArg (fun z : AlXT => z.2.2) e⟩
  keeps := fun _ _ _ ⟨K, hK, c⟩ k => ⟨K, PySem.W.Frag.In.keeps hK k, c⟩
theorem obsXTG_eq {n : Nat} {fa : List He.Fa} {fn : List He.DefD} {ts : List He.Tab} {ex : PySem.W.Frag → Bool} {file : Str} {er : List ErrD} {g : Addr → Option Obj} {s : Shared} (h : ∀ a, g a = s.heap.get? a) : obsXTG n fa fn ts ex file er g = (hookXT n fa fn ts ex file er).obs s := by
  have e : g = s.heap.get? := funext h
  rw [e] <;> rfl
end G

namespace G
open PySem PySem.Spec PyProof.Rows L2
/-! ### what a run does not touch: generators that sleep -/
/-- one that must not be woken -/
def deaf : GenState → GenState
  | .suspended _ l c p fs cl => .suspended (fun _ => .unsupported "") l c p fs cl
  | x => x
theorem deaf_seen (x : GenState) : (deaf x).seen = x.seen := by cases x <;> rfl
theorem deaf_bare (x : GenState) : (deaf x).bare = x.bare := by cases x <;> rfl
def slp : GenState → Bool
  | .suspended .. => true
  | _ => false
def plainG : GenState → Prop
  | .suspended _ _ _ _ fs _ => splitAtGen fs = none
  | _ => True
def plainE : End → Prop
  | .susp _ _ _ _ _ _ fs => splitAtGen fs = none
  | _ => True
theorem plain_end {e : End} (h : plainE e) : plainG e.genState := by
  cases e with
  | ret r => trivial
  | susp v g l k c p fs => exact h
/-- G: the table as it is; G0: the same with the sleepers of D deaf -/
structure Sim (D : Nat → Option GenState) (G G0 : Array GenState) : Prop where
  sz : G0.size = G.size
  old : ∀ (g : Nat) x, D g = some x → G[g]? = some x ∧ G0[g]? = some (deaf x) ∧ slp x = true
  new : ∀ (g : Nat) x, D g = none → G[g]? = some x → G0[g]? = some x ∧ plainG x
section
variable {D : Nat → Option GenState} {G G0 : Array GenState} {g : Nat} {x : GenState}
theorem Sim.get (h : Sim D G G0) (d : D g = none) (e : G0[g]? = some x) : G[g]? = some x ∧ plainG x := by
  have l : g < G.size := by rw [← h.sz]; exact (Array.getElem?_eq_some_iff.mp e).1
  have q : G[g]? = some G[g] := Array.getElem?_eq_getElem l
  obtain ⟨a, b⟩ := h.new g _ d q
  rw [e] at a; cases a
  exact ⟨q, b⟩
theorem Sim.seen (h : Sim D G G0) (e : G0[g]? = some x) : ∃ y, G[g]? = some y ∧ y.seen = x.seen := by
  cases d : D g with
  | none => exact ⟨x, (h.get d e).1, rfl⟩
  | some y =>
    obtain ⟨a, b, _⟩ := h.old g y d
    rw [e] at b; cases b
    exact ⟨y, a, (deaf_seen y).symm⟩
theorem Sim.none_of (h : Sim D G G0) (e : G0[g]? = some x) (hx : slp x = false) : D g = none := by
  cases d : D g with
  | none => rfl
  | some y =>
    obtain ⟨_, b, c⟩ := h.old g y d
    rw [e] at b; cases b
    cases y <;> first | exact Bool.noConfusion (show false = true from c) | exact Bool.noConfusion (show true = false from hx)
theorem Sim.set (h : Sim D G G0) (d : D g = none) (px : plainG x) : Sim D (G.setIfInBounds g x) (G0.setIfInBounds g x) := by
  refine ⟨by rw [Array.size_setIfInBounds, Array.size_setIfInBounds]; exact h.sz, fun j y q => ?_, fun j y q r => ?_⟩
  · have ne : g ≠ j := fun z => by subst z; rw [d] at q; cases q
    rw [Array.getElem?_setIfInBounds_ne ne, Array.getElem?_setIfInBounds_ne ne]
    exact h.old j y q
  · by_cases ne : g = j
    · subst ne
      rw [Array.getElem?_setIfInBounds_self] at r ⊢
      split at r
      · cases r
        rename_i l
        rw [if_pos (by rw [h.sz]; exact l)]
        exact ⟨rfl, px⟩
      · cases r
    · rw [Array.getElem?_setIfInBounds_ne ne] at r ⊢
      exact h.new j y q r
theorem Sim.push (h : Sim D G G0) (px : plainG x) : Sim D (G.push x) (G0.push x) := by
  refine ⟨by rw [Array.size_push, Array.size_push, h.sz], fun j y q => ?_, fun j y q r => ?_⟩
  · obtain ⟨a, b, c⟩ := h.old j y q
    have l := (Array.getElem?_eq_some_iff.mp a).1
    refine ⟨?_, ?_, c⟩
    · rw [Array.getElem?_push, if_neg (by omega)]; exact a
    · rw [Array.getElem?_push, if_neg (by rw [h.sz]; omega)]; exact b
  · rw [Array.getElem?_push] at r ⊢
    by_cases l : j = G.size
    · rw [if_pos l] at r
      rw [if_pos (by rw [h.sz]; exact l)]
      cases r
      exact ⟨rfl, px⟩
    · rw [if_neg l] at r
      rw [if_neg (by rw [h.sz]; exact l)]
      exact h.new j y q r
end
theorem split_app : ∀ {a b : List Frame}, splitAtGen a = none → splitAtGen b = none → splitAtGen (a ++ b) = none
  | [], _, _, h => h
  | .gen .. :: _, _, h, _ => by cases h
  | .ret k h g l c p kp :: a, b, h1, h2 => by
    have e : splitAtGen a = none := by
      have q : (splitAtGen a).map (fun (x : List Frame × (Nat × (GenResult → Sem PySem.Fin) × Code × Pos) × List Frame) => (Frame.ret k h g l c p kp :: x.1, x.2.1, x.2.2)) = none := h1
      cases z : splitAtGen a with
      | none => rfl
      | some y => rw [z] at q; cases q
    show (splitAtGen (a ++ b)).map _ = none
    rw [split_app e h2]; rfl
theorem split_tail {F : Frame} {a : List Frame} (h : splitAtGen (F :: a) = none) : splitAtGen a = none := by
  cases F with
  | gen g k l c p => cases h
  | ret k hh g l c p kp =>
    have q : (splitAtGen a).map (fun (x : List Frame × (Nat × (GenResult → Sem PySem.Fin) × Code × Pos) × List Frame) => (Frame.ret k hh g l c p kp :: x.1, x.2.1, x.2.2)) = none := h
    cases z : splitAtGen a with
    | none => rfl
    | some y => rw [z] at q; cases q
theorem no_run {M : Model} {Γ : PySem.Ctx} {p : Pos} {t : Sem PySem.Fin} {fs : List Frame} {s s' : Shared} {e : End} (h : Runs M Γ p t fs s e s') : ∀ w, t ≠ .unsupported w := by
  induction h with
  | segRet _ _ ih _ => exact ih
  | segGen _ _ ih _ => exact ih
  | segSuspOut _ _ ih => exact ih
  | segSuspGen _ _ _ _ ih _ => exact ih
  | _ => intro w z; cases z

/-- THE FRAME: a run leaves the sleepers as they are -/
theorem runs_sim {M : Model} {Γ : PySem.Ctx} {p : Pos} {t : Sem PySem.Fin} {fs : List Frame} {s s' : Shared} {e : End} (h : Runs M Γ p t fs s e s') :
    ∀ {D : Nat → Option GenState} {G : Array GenState}, splitAtGen fs = none → Sim D G s.gens → ∃ G', Runs M Γ p t fs { s with gens := G } e { s' with gens := G' } ∧ Sim D G' s'.gens ∧ plainE e := by
  induction h with
  | done => intro D G hf hs; exact ⟨G, .done, hs, trivial⟩
  | raise => intro D G hf hs; exact ⟨G, .raise, hs, trivial⟩
  | again hq _ ih => intro D G hf hs; obtain ⟨G', r, q⟩ := ih hf hs; exact ⟨G', .again hq r, q⟩
  | rule _ ih => intro D G hf hs; obtain ⟨G', r, q⟩ := ih hf hs; exact ⟨G', .rule r, q⟩
  | «at» _ ih => intro D G hf hs; obtain ⟨G', r, q⟩ := ih hf hs; exact ⟨G', .at r, q⟩
  | load ho _ ih => intro D G hf hs; obtain ⟨G', r, q⟩ := ih hf hs; exact ⟨G', .load ho r, q⟩
  | update ho _ ih => intro D G hf hs; obtain ⟨G', r, q⟩ := ih hf hs; exact ⟨G', .update ho r, q⟩
  | loadIfAlive _ ih => intro D G hf hs; obtain ⟨G', r, q⟩ := ih hf hs; exact ⟨G', .loadIfAlive r, q⟩
  | point _ ih => intro D G hf hs; obtain ⟨G', r, q⟩ := ih hf hs; exact ⟨G', .point r, q⟩
  | alloc _ ih => intro D G hf hs; obtain ⟨G', r, q⟩ := ih hf hs; exact ⟨G', .alloc r, q⟩
  | fresh _ ih => intro D G hf hs; obtain ⟨G', r, q⟩ := ih hf hs; exact ⟨G', .fresh r, q⟩
  | ask _ ih => intro D G hf hs; obtain ⟨G', r, q⟩ := ih hf hs; exact ⟨G', .ask r, q⟩
  | choose hn _ ih => intro D G hf hs; obtain ⟨G', r, q⟩ := ih hf hs; exact ⟨G', .choose hn r, q⟩
  | os _ ih => intro D G hf hs; obtain ⟨G', r, q⟩ := ih hf hs; exact ⟨G', .os r, q⟩
  | handled _ ih => intro D G hf hs; obtain ⟨G', r, q⟩ := ih hf hs; exact ⟨G', .handled r, q⟩
  | stack _ ih => intro D G hf hs; obtain ⟨G', r, q⟩ := ih hf hs; exact ⟨G', .stack r, q⟩
  | thread _ ih => intro D G hf hs; obtain ⟨G', r, q⟩ := ih hf hs; exact ⟨G', .thread r, q⟩
  | genState hg _ ih =>
    intro D G hf hs
    obtain ⟨y, hy, e⟩ := hs.seen hg
    obtain ⟨G', r, q⟩ := ih hf hs
    exact ⟨G', .genState hy (by rw [e]; exact r), q⟩
  | @newGen _ _ _ s _ _ c _ ih =>
    intro D G hf hs
    obtain ⟨G', r, q⟩ := ih hf (hs.push (x := .fresh c) trivial)
    refine ⟨G', .newGen ?_, q⟩
    rw [hs.sz] at r
    exact r
  | call _ _ ih1 ih2 =>
    intro D G hf hs
    obtain ⟨G1, r1, q1, _⟩ := ih1 rfl hs
    obtain ⟨G2, r2, q2⟩ := ih2 hf q1
    exact ⟨G2, .call r1 r2, q2⟩
  | callSusp _ ih =>
    intro D G hf hs
    obtain ⟨G1, r1, q1, q2⟩ := ih rfl hs
    exact ⟨G1, .callSusp r1, q1, split_app q2 rfl⟩
  | yield => intro D G hf hs; exact ⟨G, .yield, hs, rfl⟩
  | resumeFresh hg _ hq _ ih1 ih2 =>
    intro D G hf hs
    have d := hs.none_of hg rfl
    obtain ⟨G1, r1, q1, p1⟩ := ih1 rfl (hs.set (x := .running) d trivial)
    obtain ⟨G2, r2, q2⟩ := ih2 hf (q1.set d (plain_end p1))
    exact ⟨G2, .resumeFresh (hs.get d hg).1 r1 hq r2, q2⟩
  | @resumeSuspended _ _ g _ _ _ s k₀ l₀ c₀ p₀ fs₀ cl _ _ _ _ hg hr hq _ ih1 ih2 =>
    intro D G hf hs
    cases d : D g with
    | some y =>
      obtain ⟨_, b, c⟩ := hs.old g y d
      rw [hg] at b
      cases y with
      | suspended k l c p f z =>
        have e := (GenState.suspended.inj (Option.some.inj b)).1
        rw [e] at hr
        exact absurd rfl (no_run hr "")
      | fresh _ => exact Bool.noConfusion (show false = true from c)
      | running => exact Bool.noConfusion (show false = true from c)
      | finished => exact Bool.noConfusion (show false = true from c)
    | none =>
      obtain ⟨a, pl⟩ := hs.get d hg
      obtain ⟨G1, r1, q1, p1⟩ := ih1 pl (hs.set (x := .running) d trivial)
      obtain ⟨G2, r2, q2⟩ := ih2 hf (q1.set d (plain_end p1))
      exact ⟨G2, .resumeSuspended a r1 hq r2, q2⟩
  | resumeJustStarted hg hv _ ih =>
    intro D G hf hs
    obtain ⟨G', r, q⟩ := ih hf hs
    exact ⟨G', .resumeJustStarted (hs.get (hs.none_of hg rfl) hg).1 hv r, q⟩
  | resumeThrowFresh hg _ ih =>
    intro D G hf hs
    have d := hs.none_of hg rfl
    obtain ⟨G', r, q⟩ := ih hf (hs.set (x := .finished) d trivial)
    exact ⟨G', .resumeThrowFresh (hs.get d hg).1 r, q⟩
  | resumeRunning hg _ ih =>
    intro D G hf hs
    obtain ⟨G', r, q⟩ := ih hf hs
    exact ⟨G', .resumeRunning (hs.get (hs.none_of hg rfl) hg).1 r, q⟩
  | resumeFinished hg _ ih =>
    intro D G hf hs
    obtain ⟨G', r, q⟩ := ih hf hs
    exact ⟨G', .resumeFinished (hs.get (hs.none_of hg rfl) hg).1 r, q⟩
  | segRet _ _ ih1 ih2 =>
    intro D G hf hs
    obtain ⟨G1, r1, q1, _⟩ := ih1 rfl hs
    obtain ⟨G2, r2, q2⟩ := ih2 (split_tail hf) q1
    exact ⟨G2, .segRet r1 r2, q2⟩
  | segGen _ _ _ _ => intro D G hf hs; cases hf
  | segSuspOut hn _ ih =>
    intro D G hf hs
    obtain ⟨G1, r1, q1, q2⟩ := ih rfl hs
    exact ⟨G1, .segSuspOut hn r1, q1, split_app q2 hf⟩
  | segSuspGen hn _ _ _ _ _ => intro D G hf hs; rw [hf] at hn; cases hn
/-- what a word says of a state, told of the state with another table -/
def Aft {α : Type} (D : Nat → Option GenState) (Q : α → Shared → Prop) (a : α) (s : Shared) : Prop := ∃ G0, Sim D s.gens G0 ∧ Q a { s with gens := G0 }
open Sem (wp) in
theorem wp_sim {α : Type} {M : Model} {Γ : PySem.Ctx} {D : Nat → Option GenState} (t : Sem α) : ∀ {Q : α → Pos → Shared → Prop} {E : Value → Pos → Shared → Prop} {p : Pos} {s : Shared} {G : Array GenState}, Sim D G s.gens → wp M Γ t Q E p s →
    wp M Γ t (fun a p' s' => ∃ G0, Sim D s'.gens G0 ∧ Q a p' { s' with gens := G0 }) (fun x p' s' => ∃ G0, Sim D s'.gens G0 ∧ E x p' { s' with gens := G0 }) p { s with gens := G } := by
  induction t with
  | pure a => intro Q E p s G hs h; exact ⟨_, hs, h⟩
  | raise e => intro Q E p s G hs h; exact ⟨_, hs, h⟩
  | unsupported _ => intro Q E p s G hs h; exact h
  | finish _ => intro Q E p s G hs h; exact h
  | rule _ k ih => intro Q E p s G hs h; exact ih () hs h
  | «at» p' k ih => intro Q E p s G hs h; exact ih () hs h
  | load a _ k ih => intro Q E p s G hs h; obtain ⟨o, ho, h⟩ := h; exact ⟨o, ho, ih o hs h⟩
  | update a _ f k ih => intro Q E p s G hs h; exact ⟨h.1, ih () (s := { s with heap := s.heap.update a f }) hs h.2⟩
  | loadIfAlive a k ih => intro Q E p s G hs h; exact ih _ hs h
  | point _ k ih => intro Q E p s G hs h; exact ih () hs h
  | register _ _ => intro Q E p s G hs h; exact h
  | alloc o k ih => intro Q E p s G hs h; exact ih _ (s := { s with heap := s.heap.push o }) hs h
  | fresh k ih => intro Q E p s G hs h; exact ih _ (s := { s with toks := s.toks + 1 }) hs h
  | ask k ih => intro Q E p s G hs h; exact ih _ hs h
  | choose src m k ih => intro Q E p s G hs h; exact ⟨h.1, ih _ (s := { s with drawn := s.drawn.bump src }) hs h.2⟩
  | os q _ k ih => intro Q E p s G hs h; exact ih _ (s := { s with os := (Os.step s.os q).1 }) hs h
  | call c hd _ _ k ih =>
    intro Q E p s G hs h
    obtain ⟨r, s', hr, h⟩ := h
    obtain ⟨G1, r1, q1, _⟩ := runs_sim hr rfl hs
    exact ⟨r, _, r1, ih r q1 h⟩
  | handled own k ih => intro Q E p s G hs h; exact ih _ hs h
  | genState g k ih =>
    intro Q E p s G hs h
    obtain ⟨st, hg, h⟩ := h
    obtain ⟨y, hy, e⟩ := hs.seen hg
    exact ⟨y, hy, by rw [e]; exact ih _ hs h⟩
  | newGen c k ih =>
    intro Q E p s G hs h
    have r := ih _ (s := { s with gens := s.gens.push (.fresh c) }) (hs.push (x := .fresh c) trivial) h
    rw [hs.sz] at r
    exact r
  | resume g r _ k ih =>
    intro Q E p s G hs h
    obtain ⟨res, s', hw, h⟩ := h
    unfold Wakes at hw
    split at hw
    · exact hw.elim
    · rename_i c hg
      have d := hs.none_of hg rfl
      have hg' := (hs.get d hg).1
      split at hw
      · obtain ⟨e₁, s₁, hr, hq, rfl, rfl⟩ := hw
        obtain ⟨G1, r1, q1, p1⟩ := runs_sim hr rfl (hs.set (x := .running) d trivial)
        refine ⟨_, _, ?_, ih _ (q1.set d (plain_end p1)) h⟩
        unfold Wakes
        rw [show ({ s with gens := G } : Shared).gens[g]? = some (.fresh c) from hg']
        exact ⟨e₁, _, r1, hq, rfl, rfl⟩
      · obtain ⟨rfl, rfl⟩ := hw
        rename_i v hv
        refine ⟨_, _, ?_, ih _ hs h⟩
        unfold Wakes
        rw [show ({ s' with gens := G } : Shared).gens[g]? = some (.fresh c) from hg']
        cases v <;> first | exact ⟨rfl, rfl⟩ | exact absurd rfl hv
      · obtain ⟨rfl, rfl⟩ := hw
        refine ⟨_, _, ?_, ih _ (hs.set (x := .finished) d trivial) h⟩
        unfold Wakes
        rw [show ({ s with gens := G } : Shared).gens[g]? = some (.fresh c) from hg']
        exact ⟨rfl, rfl⟩
    · rename_i k₀ l₀ c₀ p₀ fs₀ cl hg
      obtain ⟨e₁, s₁, hr, hq, rfl, rfl⟩ := hw
      cases d : D g with
      | some y =>
        obtain ⟨_, b, c⟩ := hs.old g y d
        rw [hg] at b
        cases y with
        | suspended k l c p f z =>
          have e := (GenState.suspended.inj (Option.some.inj b)).1
          rw [e] at hr
          exact absurd rfl (no_run hr "")
        | fresh _ => exact Bool.noConfusion (show false = true from c)
        | running => exact Bool.noConfusion (show false = true from c)
        | finished => exact Bool.noConfusion (show false = true from c)
      | none =>
        obtain ⟨a, pl⟩ := hs.get d hg
        obtain ⟨G1, r1, q1, p1⟩ := runs_sim hr pl (hs.set (x := .running) d trivial)
        refine ⟨_, _, ?_, ih _ (q1.set d (plain_end p1)) h⟩
        unfold Wakes
        rw [show ({ s with gens := G } : Shared).gens[g]? = some (.suspended k₀ l₀ c₀ p₀ fs₀ cl) from a]
        exact ⟨e₁, _, r1, hq, rfl, rfl⟩
    · rename_i hg
      obtain ⟨rfl, rfl⟩ := hw
      refine ⟨_, _, ?_, ih _ hs h⟩
      unfold Wakes
      rw [show ({ s' with gens := G } : Shared).gens[g]? = some .running from (hs.get (hs.none_of hg rfl) hg).1]
      exact ⟨rfl, rfl⟩
    · rename_i hg
      obtain ⟨rfl, rfl⟩ := hw
      refine ⟨_, _, ?_, ih _ hs h⟩
      unfold Wakes
      rw [show ({ s' with gens := G } : Shared).gens[g]? = some .finished from (hs.get (hs.none_of hg rfl) hg).1]
      exact ⟨rfl, rfl⟩
  | yield _ _ _ _ => intro Q E p s G hs h; exact h
  | stack k ih => intro Q E p s G hs h; exact ih _ hs h
  | fork _ _ => intro Q E p s G hs h; exact h
  | thread k ih => intro Q E p s G hs h; exact ih _ hs h
  | await _ _ _ _ _ => intro Q E p s G hs h; exact h
open Sem (wp) in
theorem any_sim {α : Type} {M : Model} {A : Around} {D : Nat → Option GenState} {t : Sem α} {Q : α → Shared → Prop} {E : Value → Shared → Prop} {s : Shared} {G : Array GenState} (hs : Sim D G s.gens) (h : wpAny M A t Q E s) :
    wpAny M A t (Aft D Q) (Aft D E) { s with gens := G } := fun Γ p hΓ => wp_sim t hs (h Γ p hΓ)
/-- all that sleep, deaf -/
def hush (s : Shared) : Shared := { s with gens := s.gens.map deaf }
def sleepers (s : Shared) (g : Nat) : Option GenState := match s.gens[g]? with
  | some x => if slp x = true then some x else none
  | none => none
theorem sim_hush (s : Shared) : Sim (sleepers s) s.gens (hush s).gens := by
  refine ⟨Array.size_map .., fun g x d => ?_, fun g x d e => ?_⟩
  · unfold sleepers at d
    split at d
    · rename_i y hy
      split at d
      · cases d
        rename_i hx
        refine ⟨hy, ?_, hx⟩
        show (s.gens.map deaf)[g]? = _
        rw [Array.getElem?_map, hy]; rfl
      · cases d
    · cases d
  · unfold sleepers at d
    rw [e] at d
    have hx : slp x = false := by
      by_cases c : slp x = true
      · have d' : (if slp x = true then some x else none) = none := d
        rw [if_pos c] at d'; cases d'
      · simpa using c
    refine ⟨?_, ?_⟩
    · show (s.gens.map deaf)[g]? = _
      rw [Array.getElem?_map, e]
      cases x <;> first | rfl | exact Bool.noConfusion (show true = false from hx)
    · cases x <;> first | trivial | exact Bool.noConfusion (show true = false from hx)
theorem sim_bare {D : Nat → Option GenState} {G G0 : Array GenState} (h : Sim D G G0) (b : AllBare G0) : AllBare G := fun y hy => by
  obtain ⟨i, hi, e⟩ := Array.mem_iff_getElem.mp hy
  have q : G[i]? = some y := by rw [Array.getElem?_eq_getElem hi, e]
  cases d : D i with
  | none => exact b y (Array.mem_of_getElem? (h.new i y d q).1)
  | some z =>
    obtain ⟨a, c, _⟩ := h.old i z d
    rw [q] at a; cases a
    rw [← deaf_bare]
    exact b _ (Array.mem_of_getElem? c)
theorem hush_bare {s : Shared} (b : AllBare s.gens) : AllBare (hush s).gens := fun y hy => by
  obtain ⟨x, hx, rfl⟩ := Array.mem_map.mp (show y ∈ s.gens.map deaf from hy)
  rw [deaf_bare]
  exact b x hx
theorem inv_gens {X : Cx} {pins : List (Addr × Obj)} {σ : L2.St} {H : Hp} {s : Shared} {G : Array GenState} (I : Inv X pins σ H s) (b : AllBare G) : Inv X pins σ H { s with gens := G } :=
  ⟨I.ok, I.os, b, I.base, I.loc, I.cell, I.free, I.freeC, I.pin, I.hok, I.len⟩
end G

namespace G
open PySem PySem.Spec PyProof.Rows L2 GenW
/-! ### the body of a generator def, piece by piece between its yields -/
/-- what is known at a waking: the abstract heap, objects that stand -/
abbrev Zk := Hp × List (Addr × Obj)
structure GP where
  M : Model
  A : Around
  En : Nat → Zk → Shared → Result → Shared → Prop
  Yd : Nat → Zk → Shared → Value → Shared → (Zk → Shared → Prop) → Prop
def GEd (G : GP) (m : Nat) (nx : Zk → Shared → Code → Sem PySem.Fin → List Frame → Prop) (Z : Zk) (so : Shared) (e : End) (s' : Shared) : Prop := match e with
  | .ret r => G.En m Z so r s'
  | .susp v g l k c p fs => (End.susp v g l k c p fs).quiet = true ∧ splitAtGen fs = none ∧ G.Yd m Z so v s' fun Z2 s2 => nx Z2 s2 c (k (.send .none)) fs
def GRun (G : GP) : Nat → Zk → Shared → Code → Sem PySem.Fin → List Frame → Shared → Prop
  | 0 => fun Z so c t fs s => ∀ Γ p, Γ.code = c → Γ.Woken G.A → ∃ e s', Runs G.M Γ p t fs s e s' ∧ GEd G 0 (fun _ _ _ _ _ => False) Z so e s'
  | m + 1 => fun Z so c t fs s => ∀ Γ p, Γ.code = c → Γ.Woken G.A → ∃ e s', Runs G.M Γ p t fs s e s' ∧ GEd G (m + 1) (fun Z2 s2 c2 t2 fs2 => GRun G m Z2 s2 c2 t2 fs2 s2) Z so e s'
def GNx (G : GP) : Nat → Zk → Shared → Code → Sem PySem.Fin → List Frame → Prop
  | 0 => fun _ _ _ _ _ => False
  | m + 1 => fun Z2 s2 c2 t2 fs2 => GRun G m Z2 s2 c2 t2 fs2 s2
section
variable {G : GP} {n : Nat} {Z : Zk} {so s : Shared} {c : Code} {fs : List Frame}
theorem gr_iff {t : Sem PySem.Fin} : GRun G n Z so c t fs s ↔ ∀ Γ p, Γ.code = c → Γ.Woken G.A → ∃ e s', Runs G.M Γ p t fs s e s' ∧ GEd G n (GNx G n) Z so e s' := by
  cases n <;> rfl
theorem gr_wrap {α : Type} {m : Sem α} {K : α → Sem PySem.Fin} {J : Value → Sem PySem.Fin} {gd : Bool → Bool} {lv : List Value → List Value}
    (h : wpAny G.M (G.A.over c fs) m (fun a s' => GRun G n Z so c (K a) fs s') (fun _ _ => False) s) : GRun G n Z so c (m.wrap K J gd lv) fs s := by
  refine gr_iff.mpr fun Γ p hc hΓ => ?_
  subst hc
  refine runs_wrap_of_wp K J gd lv m (h (Γ.over fs) p (hΓ.over fs)) (fun a p' s' k => ?_) fun _ _ _ k => k.elim
  exact gr_iff.mp k Γ p' rfl hΓ
theorem gr_bind {α : Type} {m : Sem α} {K : α → Sem PySem.Fin} (h : wpAny G.M (G.A.over c fs) m (fun a s' => GRun G n Z so c (K a) fs s') (fun _ _ => False) s) : GRun G n Z so c (m >>= K) fs s := by
  rw [Sem.bind_eq_wrap']; exact gr_wrap h
theorem gr_bindw {α β : Type} {m : Sem α} {f : α → Sem β} {K : β → Sem PySem.Fin} {J : Value → Sem PySem.Fin} {gd : Bool → Bool} {lv : List Value → List Value}
    (h : wpAny G.M (G.A.over c fs) m (fun a s' => GRun G n Z so c ((f a).wrap K J gd lv) fs s') (fun _ _ => False) s) : GRun G n Z so c ((m >>= f).wrap K J gd lv) fs s := by
  rw [Sem.bind_eq_wrap', Sem.wrap_wrap]; exact gr_wrap h
theorem gr_at {p' : Pos} {k : Unit → Sem PySem.Fin} (h : GRun G n Z so c (k ()) fs s) : GRun G n Z so c (.at p' k) fs s :=
  gr_wrap (m := standAt p') (K := k) (J := .raise) (gd := id) (lv := id) (wpAny_standAt h)
theorem gr_point {l : List Value} {k : Unit → Sem PySem.Fin} (h : GRun G n Z so c (k ()) fs s) : GRun G n Z so c (.point l k) fs s :=
  gr_wrap (m := point) (K := k) (J := .raise) (gd := id) (lv := fun _ => l) (wpAny_point h)
theorem gr_call {c' : Code} {hd : Option Value} {g : Bool} {l : List Value} {k : Result → Sem PySem.Fin} (h : ∀ p, GRun G n Z so c' (G.M.den c') (.ret k hd g l c p [] :: fs) s) : GRun G n Z so c (.call c' hd g l k) fs s := by
  refine gr_iff.mpr fun Γ p hc hΓ => ?_
  subst hc
  obtain ⟨e, s', hr, he⟩ := gr_iff.mp (h p) (Γ.goto c') p rfl (hΓ.goto c')
  exact ⟨e, s', runs_call_seg hr, he⟩
theorem gr_leaf {k : Result → Sem PySem.Fin} {hd : Option Value} {g : Bool} {l kp : List Value} {c₁ : Code} {p₁ : Pos} (r : Result) (h : GRun G n Z so c₁ (k r) fs s) : GRun G n Z so c (leafOf r) (.ret k hd g l c₁ p₁ kp :: fs) s := by
  refine gr_iff.mpr fun Γ p hc hΓ => ?_
  subst hc
  obtain ⟨e, s', hr, he⟩ := gr_iff.mp h (Γ.goto c₁) p₁ rfl (hΓ.goto c₁)
  exact ⟨e, s', Runs.pop r hr, he⟩
theorem gr_again {c' : Code} (hq : c'.quiet = true) (h : GRun G n Z so c' (G.M.den c') fs s) : GRun G n Z so c (.pure (.again c')) fs s := by
  refine gr_iff.mpr fun Γ p hc hΓ => ?_
  subst hc
  obtain ⟨e, s', hr, he⟩ := gr_iff.mp h (Γ.goto c') p rfl (hΓ.goto c')
  exact ⟨e, s', Runs.head (c₁ := c') (fun _ _ x => .again hq x) hr, he⟩
theorem gr_end (r : Result) (h : G.En n Z so r s) : GRun G n Z so c (leafOf r) [] s := by
  refine gr_iff.mpr fun Γ p hc _ => ?_
  exact ⟨.ret r, s, Runs.leaf r, h⟩
theorem gr_yield {v : Value} {g : Bool} {l : List Value} {k : Resume → Sem PySem.Fin} (hf : splitAtGen fs = none) (hg : g = false) (hfg : fs.any Frame.guarded = false)
    (h : G.Yd n Z so v s fun Z2 s2 => GNx G n Z2 s2 c (k (.send .none)) fs) : GRun G n Z so c (.yield v g l k) fs s := by
  refine gr_iff.mpr fun Γ p hc _ => ?_
  subst hc
  exact ⟨_, s, Runs.yield' fs hf, by simp [End.quiet, hg, hfg], hf, h⟩
end
/-! ### the generator's frame -/
/-- what is fixed from the call on: its context at the call, the slot that counts, how many items, what they are, the abstract heap at the call -/
structure GF where
  X0 : Cx
  q : Nat
  n : Nat
  it : Nat → V → Hp → Prop
  Hs : Hp
  g0 : Addr × Obj
/-- a heap without what came behind L -/
def cutH (h : Heap) (L : Addr) : Heap := { h with objs := h.objs.extract 0 L }
theorem ext_get {α : Type} (a : Array α) {L b : Nat} (hb : b < L) : (a.extract 0 L)[b]? = a[b]? := by
  rw [Array.getElem?_extract]
  by_cases l : b < a.size
  · rw [if_pos (by omega), Nat.zero_add]
  · rw [if_neg (by omega), Array.getElem?_eq_none (by omega)]
theorem ext_le {α : Type} (a : Array α) (L : Nat) : (a.extract 0 L).size ≤ L := by rw [Array.size_extract]; omega
theorem ext_eq {α : Type} (a : Array α) {L : Nat} (h : L ≤ a.size) : (a.extract 0 L).size = L := by rw [Array.size_extract]; omega
theorem get_objs {h h' : Heap} {b : Addr} (e : h.objs[b]? = h'.objs[b]?) : h.get? b = h'.get? b := by
  unfold Heap.get?
  rw [e]
theorem cutH_get {h : Heap} {L b : Addr} (hb : b < L) : (cutH h L).get? b = h.get? b := get_objs (ext_get h.objs hb)
theorem cutH_of {h : Heap} {L b : Addr} {o : Obj} (e : (cutH h L).get? b = some o) : b < L ∧ h.get? b = some o := by
  have hb : b < L := Nat.lt_of_lt_of_le (Heap.lt_size e) (ext_le h.objs L)
  exact ⟨hb, (cutH_get hb).symm.trans e⟩
theorem cutH_size {h : Heap} {L : Addr} (hL : L ≤ h.objs.size) : (cutH h L).objs.size = L := ext_eq h.objs hL
def GF.at (F : GF) (s : Shared) (Z : Zk) : Cx := { F.X0 with s_0 := { s with heap := cutH s.heap F.X0.env.locals }, H_0 := Z.1, pn := Z.2 }
/-- the generator's own iterators are younger than its call, and none of what was to stand -/
def IpOk (F : GF) (Z : Zk) (so : Shared) (ip : List (Addr × Obj)) : Prop := (F.X0.env.locals ≤ so.heap.objs.size ∧ F.g0 ∈ ip) ∧ ∀ p ∈ ip, F.X0.env.locals ≤ p.1 ∧ ∀ p' ∈ Z.2, p'.1 ≠ p.1
def GF.yd (F : GF) : Nat → Zk → Shared → Value → Shared → (Zk → Shared → Prop) → Prop := fun m Z so v s' kap =>
  ∃ x σ Hy ip, 0 < m ∧ m ≤ F.n ∧ RelV x v ∧ F.it (F.n - m) x Hy ∧ Chg [] F.Hs Hy ∧ Inv (F.at so Z) ip σ Hy s' ∧ IpOk F Z so ip ∧ ∀ s2 P2 H2, Chg [] Hy H2 → Inv (F.at s2 (H2, P2)) ip σ H2 s2 → IpOk F (H2, P2) s2 ip → kap (H2, P2) s2
def GF.en (F : GF) (gp : Addr × Obj) : Nat → Zk → Shared → Result → Shared → Prop := fun m Z so r s' =>
  (r = .ok (.ret .none) ∨ r = .ok .next) ∧ m = 0 ∧ ∃ σ He ip, Chg [] F.Hs He ∧ gp ∈ ip ∧ Inv (F.at so Z) ip σ He s' ∧ IpOk F Z so ip
def GF.gp (F : GF) (A : Around) (gp : Addr × Obj) : GP := ⟨model F.X0.prog F.X0.w, A, F.en gp, F.yd⟩
/-- the count stands in its slot -/
def Cn (F : GF) (σ : L2.St) (m : Nat) : Prop := m ≤ F.n ∧ σ[F.q]? = some (some (.int ((F.n - m : Nat) : Int)))
def GSP (F : GF) (Z : Zk) (so : Shared) (ip : List (Addr × Obj)) (D : Ends) (m : Nat) (f : Flow) (s : Shared) : Prop := match f with
  | .next => ∃ σ H, Inv (F.at so Z) ip σ H s ∧ Cn F σ m ∧ D.nx σ H
  | .brk => ∃ σ H, Inv (F.at so Z) ip σ H s ∧ Cn F σ m ∧ D.bk σ H
  | .cont => ∃ σ H, Inv (F.at so Z) ip σ H s ∧ Cn F σ m ∧ D.ct σ H
  | .ret _ => False
/-- where the generator's code stands -/
structure GPos (F : GF) (A : Around) (c : Code) (fs : List Frame) (gd : Bool → Bool) : Prop where
  over : A.over c fs = F.X0.A
  split : splitAtGen fs = none
  guard : fs.any Frame.guarded = false
  gd : gd false = false
/-- the family's contexts raise nothing -/
structure GFok (F : GF) : Prop where
  xe : F.X0.xe = fun _ _ => False
  calm : F.X0.calm = true
  ex : F.X0.ex = []
  cells : F.X0.env.cells = []
abbrev GKt (F : GF) (A : Around) (gp : Addr × Obj) (c : Code) (fs : List Frame) (K : Flow → Sem PySem.Fin) (D : Ends) (ip : List (Addr × Obj)) : Prop :=
  ∀ (m : Nat) (Z : Zk) (so s : Shared) (f : Flow), IpOk F Z so ip → GSP F Z so ip D m f s → GRun (F.gp A gp) m Z so c (K f) fs s
structure GS (F : GF) (st : Stmt) (t : TS) : Prop where
  run : ∀ (A : Around) (gp : Addr × Obj) (c : Code) (fs : List Frame) (K : Flow → Sem PySem.Fin) (J : Value → Sem PySem.Fin) (gd : Bool → Bool) (lv : List Value → List Value) (m : Nat) (Z : Zk) (so s : Shared) (σ : L2.St) (H : Hp) (ip : List (Addr × Obj)) (D : Ends),
    GPos F A c fs gd → GKt F A gp c fs K D ip → IpOk F Z so ip → Inv (F.at so Z) ip σ H s → Cn F σ m → t D σ H → GRun (F.gp A gp) m Z so c ((exec st F.X0.env).wrap K J gd lv) fs s
structure GSs (F : GF) (sts : List Stmt) (t : TS) : Prop where
  run : ∀ (A : Around) (gp : Addr × Obj) (c : Code) (fs : List Frame) (K : Flow → Sem PySem.Fin) (J : Value → Sem PySem.Fin) (gd : Bool → Bool) (lv : List Value → List Value) (m : Nat) (Z : Zk) (so s : Shared) (σ : L2.St) (H : Hp) (ip : List (Addr × Obj)) (D : Ends),
    GPos F A c fs gd → GKt F A gp c fs K D ip → IpOk F Z so ip → Inv (F.at so Z) ip σ H s → Cn F σ m → t D σ H → GRun (F.gp A gp) m Z so c ((execs sts F.X0.env).wrap K J gd lv) fs s
section
variable {F : GF} {st : Stmt} {rest : List Stmt} {t u : TS}
theorem gss_nil : GSs F [] tNext := ⟨fun A gp c fs K J gd lv m Z so s σ H ip D _ k ho I hc h => k m Z so s .next ho ⟨σ, H, I, hc, h⟩⟩
theorem gss_cons (a : GS F st t) (b : GSs F rest u) : GSs F (st :: rest) (tSeq t u) := by
  refine ⟨fun A gp c fs K J gd lv m Z so s σ H ip D g k ho I hc h => ?_⟩
  rw [execs_cons_wrap]
  refine a.run A gp c fs _ J gd lv m Z so s σ H ip _ g (fun m' Z' so' s' f ho' q => ?_) ho I hc h
  cases f with
  | next => obtain ⟨σ', H', I', c', q'⟩ := q; exact b.run A gp c fs K J gd lv m' Z' so' s' σ' H' ip D g k ho' I' c' q'
  | brk => exact k m' Z' so' s' .brk ho' q
  | cont => exact k m' Z' so' s' .cont ho' q
  | ret v => exact q.elim
end
end G

namespace G
open PySem PySem.Spec PyProof.Rows L2 GenW
/-! ### the statements of a generator's body -/
structure GGh (F : GF) : Prop where
  ok : GFok F
  gh : ∀ x, F.X0.N[F.q]? = some x → ¬ Vis F.X0.env.scope x
theorem inv_gh {X : Cx} {ip : List (Addr × Obj)} {σ : L2.St} {H : Hp} {s : Shared} {q : Nat} {v : Option V} (I : Inv X ip σ H s) (gh : ∀ x, X.N[q]? = some x → ¬ Vis X.env.scope x) : Inv X ip (σ.set q v) H s := by
  obtain ⟨m, hn, hl⟩ := I.loc
  refine ⟨I.ok, I.os, I.bare, I.base, ⟨m, hn, fun i x w e1 e2 e3 => ?_⟩, I.cell, I.free, I.freeC, I.pin, I.hok, by rw [List.length_set]; exact I.len⟩
  by_cases hi : i = q
  · subst hi; exact absurd e3 (gh x e1)
  · rw [List.getElem?_set_ne (Ne.symm hi)] at e2
    exact hl i x w e1 e2 e3
def tYld (F : GF) (te : TE) : TS := fun D σ H => te σ H fun x H1 => ∃ y : Nat, σ[F.q]? = some (some (.int (y : Int))) ∧ y < F.n ∧ F.it y x H1 ∧ Chg [] F.Hs H1 ∧ ∀ H2, Chg [] H1 H2 → D.nx (σ.set F.q (some (.int ((y + 1 : Nat) : Int)))) H2
section
variable {F : GF} {st : Stmt} {rest : List Stmt} {t u : TS}
theorem gs_yield {e : Expr} {te : TE} {yp pos : Pos} (ok : GGh F) (he : ∀ s Z, PE (F.at s Z) e te) (hco : F.X0.env.scope.isCoroutine = false := by rfl) (hi : interactive F.X0.env = false := by rfl) : GS F (.Expr (.Yield (some e) yp) pos) (tYld F te) := by
  refine ⟨fun A gp c fs K J gd lv m Z so s σ H ip D g k ho I hc h => ?_⟩
  rw [exec_Expr F.X0.env _ pos hi rfl]
  show GRun _ _ _ _ _ (.at pos fun _ => ((eval e F.X0.env >>= fun v => (standAt yp >>= fun _ => yieldOut F.X0.env v)) >>= fun x => dropValue (.Yield (some e) yp) pos x).wrap K J gd lv) fs s
  have hy : ∀ v, yieldOut F.X0.env v = yieldValue v := fun v => by simp only [yieldOut, hco, Bool.false_eq_true, if_false]
  simp only [hy]
  refine gr_at ?_
  rw [Sem.bind_eq_wrap', Sem.bind_eq_wrap', Sem.wrap_wrap, Sem.wrap_wrap]
  refine gr_wrap ?_
  show wpAny (model F.X0.prog F.X0.w) (A.over c fs) _ _ _ _
  rw [g.over]
  refine wpAny_mono ((he so Z).run ip s σ H _ I h) (fun v s1 h1 => ?_) (fun x s1 hx => ?_)
  · obtain ⟨x, H1, I1, rv, y, e1, e2, e3, e4, e5⟩ := h1
    have cm : y = F.n - m := by
      have := hc.2
      rw [e1] at this
      have := Int.ofNat.inj (V.int.inj (Option.some.inj (Option.some.inj this)))
      exact this
    have hq : F.q < σ.length := (List.getElem?_eq_some_iff.mp e1).1
    have hcm := hc.1
    obtain ⟨m', rfl⟩ : ∃ m', m = m' + 1 := ⟨m - 1, by omega⟩
    refine gr_at (gr_yield g.split g.gd g.guard ?_)
    refine ⟨x, σ.set F.q (some (.int ((y + 1 : Nat) : Int))), H1, ip, Nat.succ_pos _, hcm, rv, by rw [← cm]; exact e3, e4, inv_gh I1 ok.gh, ho, fun s2 P2 H2 c2 I2 ho2 => ?_⟩
    show GRun _ m' _ _ _ (K .next) _ _
    refine k m' (H2, P2) s2 s2 .next ho2 ⟨_, H2, I2, ⟨by omega, ?_⟩, e5 H2 c2⟩
    rw [List.getElem?_set_self hq]
    congr 4
    omega
  · have q : F.X0.xe x s1 := hx
    rw [ok.ok.xe] at q
    exact q.elim
theorem gs_if {c : Expr} {a b : List Stmt} {tc : TT} {ta tb : TS} {pos : Pos} (ok : GGh F) (hc : ∀ s Z, PT (F.at s Z) c tc) (ha : GSs F a ta) (hb : GSs F b tb) : GS F (.If c a b pos) (tIfS tc ta tb) := by
  refine ⟨fun A gp cd fs K J gd lv m Z so s σ H ip D g k ho I hcn h => ?_⟩
  rw [exec_If]
  show GRun _ _ _ _ _ (.at pos fun _ => (isTrue c F.X0.env (eval c F.X0.env) >>= fun d => if d = true then execs a F.X0.env else execs b F.X0.env).wrap K J gd lv) fs s
  refine gr_at (gr_bindw ?_)
  show wpAny (model F.X0.prog F.X0.w) (A.over cd fs) _ _ _ _
  rw [g.over]
  refine wpAny_mono ((hc so Z).run ip s σ H _ I h) (fun d s1 h1 => ?_) (fun x s1 hx => ?_)
  · obtain ⟨H1, I1, q1⟩ := h1
    cases d with
    | true =>
      rw [if_pos rfl] at q1 ⊢
      exact ha.run A gp cd fs K J gd lv m Z so s1 σ H1 ip D g k ho I1 hcn q1
    | false =>
      rw [if_neg Bool.false_ne_true] at q1 ⊢
      exact hb.run A gp cd fs K J gd lv m Z so s1 σ H1 ip D g k ho I1 hcn q1
  · have q : F.X0.xe x s1 := hx
    rw [ok.ok.xe] at q
    exact q.elim
/-- x = e -/
theorem gs_set {i : Nat} {x : Str} {e : Expr} {te : TE} {pos pos' : Pos} (ok : GGh F) (hN : F.X0.N.Nodup) (hi : F.X0.N[i]? = some x) (hx : Loc F.X0.env.scope x) (hq : i ≠ F.q) (he : ∀ s Z, PE (F.at s Z) e te) (hs : swapsWith e (some (.Name x pos')) pos.line F.X0.env = pure false := by rfl)
    (hf : F.X0.fn x = true ∨ F.X0.env.scope.names.lookup x = some .local := by first | exact .inl rfl | exact .inr rfl | assumption) : GS F (.Assign [.Name x pos'] e pos) (tAsg te (gName i)) := by
  refine ⟨fun A gp c fs K J gd lv m Z so s σ H ip D g k ho I hcn h => ?_⟩
  refine gr_wrap ?_
  show wpAny (model F.X0.prog F.X0.w) (A.over c fs) _ _ _ _
  rw [g.over]
  have never : ∀ y s1, ¬ F.X0.xe y s1 := fun y s1 z => by rw [ok.ok.xe] at z; exact z
  refine wpAny_Assign_Name (wpAny_mono ((he so Z).run ip s σ H _ I h) (fun v s1 h1 => ?_) fun y s1 z => (never y s1 z).elim) hs
  obtain ⟨y, H1, I1, r1, q1⟩ := h1
  refine store_ok (X := F.at so Z) I1 hN hi hx r1 (fun s2 I2 => k m Z so s2 .next ho ⟨_, H1, I2, ⟨hcn.1, ?_⟩, q1⟩) hf
  rw [List.getElem?_set_ne hq]; exact hcn.2
/-- a target leaves the count -/
def KeepQ (q : Nat) (gt : TG) : Prop := ∀ v σ H (Q : L2.St → Hp → Prop), gt v σ H Q → gt v σ H fun σ' H' => Q σ' H' ∧ σ'[q]? = σ[q]?
theorem keep_name {q i : Nat} (h : i ≠ q) : KeepQ q (gName i) := fun v σ H Q z => ⟨z, List.getElem?_set_ne h⟩
theorem gpos_loop {A : Around} {c c' : Code} {fs : List Frame} {gd : Bool → Bool} {k : Result → Sem PySem.Fin} {l kp : List Value} {p : Pos} (g : GPos F A c fs gd) (hw : c'.weight = 0) (hu : c'.cUnits = 0) : GPos F A c' (.ret k none (gd false) l c p kp :: fs) id where
  over := (over_loop hw hu).trans g.over
  split := by
    show (splitAtGen fs).map _ = none
    rw [g.split]; rfl
  guard := by
    show (gd false || fs.any Frame.guarded) = false
    rw [g.gd, g.guard]; rfl
  gd := rfl
theorem fp_at {s s' : Shared} {Z Z' : Zk} {ip : List (Addr × Obj)} {H : Hp} {b : Addr} (ok : GGh F) (h : FpOk (F.at s Z) ip H b) (hs : F.X0.env.locals ≤ b) (hn : ∀ p ∈ Z'.2 ++ ip, p.1 ≠ b) {H' : Hp} (hH : H' b = none) : FpOk (F.at s' Z') ip H' b := by
  obtain ⟨_, h1, h2, h3, h4, _⟩ := h
  refine ⟨hH, h1, h2, ?_, h4, hn⟩
  by_cases hL : F.X0.env.locals ≤ s'.heap.objs.size
  · refine .inr ?_
    show (cutH s'.heap F.X0.env.locals).objs.size ≤ b
    rw [cutH_size hL]; exact hs
  · refine .inr ?_
    show (cutH s'.heap F.X0.env.locals).objs.size ≤ b
    exact Nat.le_trans (ext_le s'.heap.objs F.X0.env.locals) hs
theorem gs_for {tg iter : Expr} {body : List Stmt} {wi : TI} {gt : TG} {tb : TS} {pos : Pos} (ok : GGh F) (hi : ∀ s Z, PI (F.at s Z) tg iter wi) (hg : ∀ s Z, PG (F.at s Z) tg gt) (hk : KeepQ F.q gt) (hb : GSs F body tb)
    (hs : ∀ x, foldedSetIterable iter F.X0.env x = pure x := by intro _; rfl) : GS F (.For tg iter body [] pos) (tFor wi gt tb) := by
  refine ⟨fun A gp c fs K J gd lv m Z so s σ H ip D g k ho I hcn h => ?_⟩
  have never : ∀ y s1, ¬ F.X0.xe y s1 := fun y s1 z => by rw [ok.ok.xe] at z; exact z
  rw [exec_For]
  show GRun _ _ _ _ _ (.at pos fun _ => (eval iter F.X0.env >>= fun a => foldedSetIterable iter F.X0.env a >>= fun x => standAt iter.pos >>= fun _ => holding [x] (pyIter x) >>= fun it => runOwn (.forLoop tg it body [] F.X0.env) F.X0.env).wrap K J gd lv) fs s
  refine gr_at (gr_bindw ?_)
  show wpAny (model F.X0.prog F.X0.w) (A.over c fs) _ _ _ _
  rw [g.over]
  refine wpAny_mono ((hi so Z).run ip s σ H _ I h) (fun v s1 h1 => ?_) fun y s1 z => (never y s1 z).elim
  rw [hs v]
  show GRun _ _ _ _ _ (.at iter.pos fun _ => (holding [v] (pyIter v) >>= fun it => runOwn (.forLoop tg it body [] F.X0.env) F.X0.env).wrap K J gd lv) fs s1
  refine gr_at (gr_bindw (wpAny_holding ?_))
  show wpAny (model F.X0.prog F.X0.w) (A.over c fs) _ _ _ _
  rw [g.over]
  refine wpAny_mono h1 (fun itv s2 h2 => ?_) fun y s1 z => (never y s1 z).elim
  obtain ⟨it, fp, tn, Jt, H2, e, I2, T, st2, f2, W, ⟨m0, w0⟩, turn⟩ := h2
  subst e
  refine gr_call fun p => ?_
  have gl := fun (kk : Result → Sem PySem.Fin) (c' : Code) (hw : c'.weight = 0) (hu : c'.cUnits = 0) => gpos_loop (k := kk) (c' := c') (l := lv []) (kp := []) (p := p) g hw hu
  have fpL : ∀ b ∈ fp, F.X0.env.locals ≤ b := fun b hb => by
    obtain ⟨_, _, _, q, _⟩ := f2 b hb
    rcases q with q | q
    · have q' : b ∈ F.X0.ex := q
      rw [ok.ok.ex] at q'; cases q'
    · have q' : (cutH so.heap F.X0.env.locals).objs.size ≤ b := q
      rw [cutH_size ho.1.1] at q'; exact q'
  have hog := ho.1.2
  have loop : ∀ (n m : Nat) (Z : Zk) (so s : Shared) (σ : L2.St) (H : Hp) (i : Nat), IpOk F Z so ip → Inv (F.at so Z) ip σ H s → tn i s.heap → (∀ b ∈ fp, FpOk (F.at so Z) ip H b) → Cn F σ m → W i n σ H →
      GRun (F.gp A gp) m Z so (.forLoop tg (.ref it) body [] F.X0.env) ((F.gp A gp).M.den (.forLoop tg (.ref it) body [] F.X0.env))
        (.ret (fun r => ((match r with | .ok f => (.pure f : Sem Flow) | .error e => .raise e).onRaise (cameBack F.X0.env)).wrap K J gd lv) none (gd false) (lv []) c p [] :: fs) s := by
    intro n
    induction n using Nat.strongRecOn with
    | ind n ih =>
      intro m Z so s σ H i ho I st fr hcn w
      show GRun _ _ _ _ _ ((forTurn tg (.ref it) body [] F.X0.env).onRaise (fun x => do noteFrame x F.X0.env; theTreesLotGoes x)) _ _
      unfold forTurn
      rw [Sem.onRaise_eq_wrap]
      have gl := fun (kk : Result → Sem PySem.Fin) => gpos_loop (k := kk) (c' := .forLoop tg (.ref it) body [] F.X0.env) (l := lv []) (kp := []) (p := p) g rfl rfl
      refine gr_at ?_
      show GRun _ _ _ _ _ (((pyNext (.ref it)).onRaise _ >>= _).wrap _ _ _ _) _ _
      refine gr_bindw (wpAny_onRaise ?_)
      show wpAny (model F.X0.prog F.X0.w) (A.over _ _) _ _ _ _
      rw [(gl _).over]
      have fr0 : ∀ {X : Cx} {H' : Hp}, (∀ b ∈ fp, FpOk X ip H b) → (∀ b ∈ fp, H' b = none) → ∀ b ∈ fp, FpOk X ip H' b := fun q z b hb => ⟨z b hb, (q b hb).2⟩
      rcases turn i n σ H w with ⟨stop, qn⟩ | ⟨go, N, hN, step⟩
      · refine wpAny_mono (T.done (F.at so Z) rfl rfl rfl ok.ok.calm i ip s σ H (fun _ _ => False) I fr st stop) (fun r s4 ⟨hr, I4⟩ => ?_) fun _ _ z => z.elim
        subst hr
        refine gr_again rfl ?_
        show GRun _ _ _ _ _ ((execs [] F.X0.env).onRaise _ >>= _) _ _
        refine gr_leaf (.ok .next) ?_
        exact k m Z so s4 .next ho ⟨σ, H, I4, hcn, qn⟩
      · refine wpAny_mono (T.item (F.at so Z) rfl rfl rfl ok.ok.calm i ip s σ H (fun _ _ => False) I fr st go) (fun r s4 ⟨u, hr, h4⟩ => ?_) fun _ _ z => z.elim
        subst hr
        show GRun _ _ _ _ _ ((letOwnedTupleGo tg (.ref it) u >>= fun _ => assign tg F.X0.env u >>= fun _ => execs body F.X0.env >>= _).wrap _ _ _ _) _ _
        refine gr_bindw ?_
        show wpAny (model F.X0.prog F.X0.w) (A.over _ _) _ _ _ _
        rw [(gl _).over]
        refine wpAny_mono h4 (fun _ s5 ⟨x, H5, I5, r5, y5, st5, fr5⟩ => ?_) fun _ _ z => z.elim
        have I5' := I5.pinned (fr0 fr fr5) (T.obj _ _ st5)
        refine gr_bindw ?_
        show wpAny (model F.X0.prog F.X0.w) (A.over _ _) _ _ _ _
        rw [(gl _).over]
        refine wpAny_mono ((hg so Z).run _ s5 σ H5 x u _ I5' r5 (hk _ _ _ _ (step x H5 y5))) (fun _ s6 ⟨σ6, H6, I6, q6, e6⟩ => ?_) fun y s1 z => (never y s1 z).elim
        have c6 : Cn F σ6 m := ⟨hcn.1, by rw [e6]; exact hcn.2⟩
        have ho6 : IpOk F Z so (ip ++ pinsAt fp s5.heap) := ⟨⟨ho.1.1, List.mem_append_left _ ho.1.2⟩, fun q hq => by
          rcases List.mem_append.mp hq with hq | hq
          · exact ho.2 q hq
          · obtain ⟨hb, _⟩ := of_pinsAt hq
            exact ⟨fpL _ hb, fun p' hp' => (fr _ hb).2.2.2.2.2 p' (List.mem_append_left _ hp')⟩⟩
        rw [Sem.bind_eq_wrap', Sem.wrap_wrap]
        refine hb.run A gp _ _ _ _ _ _ m Z so s6 σ6 H6 _ _ (gl _) (fun m' Z' so' s7 f ho' q7 => ?_) ho6 I6 c6 q6
        have back : ∀ {σ7 : L2.St} {H7 : Hp}, Inv (F.at so' Z') (ip ++ pinsAt fp s5.heap) σ7 H7 s7 → IpOk F Z' so' ip ∧ Inv (F.at so' Z') ip σ7 H7 s7 ∧ tn (i + 1) s7.heap ∧ ∀ b ∈ fp, FpOk (F.at so' Z') ip H7 b := fun {σ7 H7} I7 => by
          have pin : ∀ b ∈ fp, ∃ o, s5.heap.get? b = some o ∧ s7.heap.get? b = some o ∧ H7 b = none := fun b hb => by
            obtain ⟨o, e, d⟩ := T.obj _ _ st5 b hb
            obtain ⟨q1, q2, _⟩ := I7.pin (b, o) (List.mem_append_right _ (List.mem_append_right _ (mem_pinsAt hb e)))
            exact ⟨o, e, q1, q2⟩
          refine ⟨⟨⟨ho'.1.1, hog⟩, fun q hq => ho'.2 q (List.mem_append_left _ hq)⟩, I7.unpinned, T.keep _ _ _ st5 fun b hb o e => ?_, fun b hb => ?_⟩
          · obtain ⟨o', e1, e2, _⟩ := pin b hb
            rw [e1] at e; cases e; exact e2
          · obtain ⟨o', e1, e2, e3⟩ := pin b hb
            refine fp_at ok (fr b hb) (fpL b hb) (fun q hq => ?_) e3
            rcases List.mem_append.mp hq with hq | hq
            · exact (ho'.2 (b, o') (List.mem_append_right _ (mem_pinsAt hb e1))).2 q hq
            · exact (fr b hb).2.2.2.2.2 q (List.mem_append_right _ hq)
        cases f with
        | next =>
          obtain ⟨σ7, H7, I7, c7, n7⟩ := q7
          obtain ⟨n', hn, w7⟩ := hN σ7 H7 n7
          obtain ⟨z1, z2, z3, z4⟩ := back I7
          exact gr_again rfl (ih n' hn m' Z' so' s7 σ7 H7 (i + 1) z1 z2 z3 z4 c7 w7)
        | cont =>
          obtain ⟨σ7, H7, I7, c7, n7⟩ := q7
          obtain ⟨n', hn, w7⟩ := hN σ7 H7 n7
          obtain ⟨z1, z2, z3, z4⟩ := back I7
          exact gr_again rfl (ih n' hn m' Z' so' s7 σ7 H7 (i + 1) z1 z2 z3 z4 c7 w7)
        | brk =>
          obtain ⟨σ7, H7, I7, c7, n7⟩ := q7
          obtain ⟨z1, z2, z3, z4⟩ := back I7
          exact gr_leaf (.ok .next) (k m' Z' so' s7 .next z1 ⟨σ7, H7, z2, c7, n7⟩)
        | ret v => exact q7.elim
  exact loop m0 m Z so s2 σ H2 0 ho I2 st2 f2 hcn w0
end
end G

namespace G
open PySem PySem.Spec PyProof.Rows L2 GenW
/-! ### a def that walks a generator: what both sides keep -/
def insOf : HO → Option Addr
  | .ins _ dx _ => some dx
  | .frz _ u => insOf u
  | _ => none
/-- handed over: things without links that never change -/
def Exp : HO → Prop
  | .tup _ => True
  | .frz _ (.tup _) => True
  | .frz _ (.lst _) => True
  | _ => False
theorem exp_ins {o : HO} (h : Exp o) : insOf o = none := by
  cases o with
  | tup _ => rfl
  | frz _ u => cases u <;> first | rfl | exact h.elim
  | _ => exact h.elim
/-- things of no instance -/
def Flt : HO → Prop
  | .lst _ => True
  | .dK _ => True
  | .dT _ => True
  | .set _ _ => True
  | .ext _ => True
  | _ => False
theorem flt_ins {o : HO} (h : Flt o) : insOf o = none := by cases o <;> first | rfl | exact h.elim
section
variable {P : Program} {w : World} {H H' : Hp} {h h' : Heap} {a : Addr} {o : HO}
/-- a description moves to another heap: its object stands, its dict too -/
theorem obj_mv (x : ObjOk P w H h a o) (e : ∀ u, h.get? a = some u → h'.get? a = some u) (d : ∀ dx, insOf o = some dx → (∀ u, h.get? dx = some u → h'.get? dx = some u) ∧ H' dx = some (.own a))
    (ht : ∀ b xs, H b = some (.tup xs) → H' b = some (.tup xs)) : ObjOk P w H' h' a o := by
  induction o with
  | lst xs => obtain ⟨z, its, n, r, q⟩ := x; exact ⟨z, its, n, r, e _ q⟩
  | tup xs => obtain ⟨z, its, r, ob, q, c⟩ := x; exact ⟨z, its, r, ob, e _ q, c⟩
  | dK kvs => obtain ⟨z, y, vs, r, ob, es, ep, q, c⟩ := x; exact ⟨z, y, vs, r, ob, es, ep, e _ q, c⟩
  | dT kvs =>
    obtain ⟨z, y, xs, r, ob, es, ep, q, c⟩ := x
    exact ⟨z, y, xs, Paired.mapP r fun p r z => ⟨z.1, ht _ _ z.2.1, z.2.2⟩, ob, es, ep, e _ q, c⟩
  | set S n => obtain ⟨ob, es, ep, t, q, c⟩ := x; exact ⟨ob, es, ep, t, e _ q, c⟩
  | ins C dx fs =>
    obtain ⟨_, z, ne, q, mA, ⟨od, es, ep, e2, c⟩, r⟩ := x
    obtain ⟨d1, d2⟩ := d dx rfl
    exact ⟨d2, z, ne, e _ q, mA, ⟨od, es, ep, d1 _ e2, c⟩, r⟩
  | own y => obtain ⟨ob, q⟩ := x; exact ⟨ob, e _ q⟩
  | xd fs => obtain ⟨mA, ⟨od, es, ep, q, c⟩, r⟩ := x; exact ⟨mA, ⟨od, es, ep, e _ q, c⟩, r⟩
  | rng lo hi => obtain ⟨t, u, v, q⟩ := x; exact ⟨t, u, v, e _ q⟩
  | frz ob u ih => obtain ⟨q, y⟩ := x; exact ⟨e _ q, ih y d⟩
  | tbl ps => exact e _ x
  | met f y => exact e _ x
  | ext φ => obtain ⟨p, ⟨ob, q⟩, st⟩ := x; exact ⟨st _ _ p fun ob q => e _ q, ⟨ob, e _ q⟩, st⟩
theorem obj_at (x : ObjOk P w H h a o) : ∃ ob, h.get? a = some ob := by
  induction o with
  | lst xs => obtain ⟨_, _, _, _, e⟩ := x; exact ⟨_, e⟩
  | tup xs => obtain ⟨_, _, _, ob, e, _⟩ := x; exact ⟨_, e⟩
  | dK kvs => obtain ⟨_, _, _, _, o, _, _, e, _⟩ := x; exact ⟨_, e⟩
  | dT kvs => obtain ⟨_, _, _, _, o, _, _, e, _⟩ := x; exact ⟨_, e⟩
  | set S n => obtain ⟨o, _, _, _, e, _⟩ := x; exact ⟨_, e⟩
  | ins C dx fs => obtain ⟨_, _, _, e, _⟩ := x; exact ⟨_, e⟩
  | own y => exact x
  | xd fs => obtain ⟨_, ⟨_, _, _, e, _⟩, _⟩ := x; exact ⟨_, e⟩
  | rng lo hi => obtain ⟨_, _, _, e⟩ := x; exact ⟨_, e⟩
  | frz ob u _ => exact ⟨_, x.1⟩
  | tbl ps => exact ⟨_, x⟩
  | met f y => exact ⟨_, x⟩
  | ext φ => exact x.2.1
/-- no cell stands at a thing that is new -/
theorem obj_nc {H0 : Hp} (ok : HOk P w H h) (x : ObjOk P w H h a o) (n : NCo H0 H a o) {ob : Obj} (e : h.get? a = some ob) : ∀ v, ob.data ≠ .cell v := by
  have flat : ∀ {u : HO}, NCf u → ObjOk P w H h a u → ∀ v, ob.data ≠ .cell v := fun {u} hn x v z => by
    cases u with
    | lst xs => obtain ⟨_, _, _, _, q⟩ := x; rw [e] at q; cases q; cases z
    | tup xs => obtain ⟨_, _, _, oo, q, _, _, d⟩ := x; rw [e] at q; cases q; rw [z] at d; cases d
    | dK kvs => obtain ⟨_, _, _, _, o, _, _, q, _, d, _⟩ := x; rw [e] at q; cases q; rw [z] at d; cases d
    | dT kvs => obtain ⟨_, _, _, _, o, _, _, q, _, d, _⟩ := x; rw [e] at q; cases q; rw [z] at d; cases d
    | set S n => obtain ⟨o, _, _, _, q, _, d, _⟩ := x; rw [e] at q; cases q; rw [z] at d; cases d
    | xd fs => obtain ⟨_, ⟨_, _, _, q, d, _⟩, _⟩ := x; rw [e] at q; cases q; rw [z] at d; cases d
    | rng lo hi => obtain ⟨_, _, _, q⟩ := x; rw [e] at q; cases q; cases z
    | tbl ps => have q : h.get? a = some _ := x; rw [e] at q; cases q; cases z
    | met f y => have q : h.get? a = some _ := x; rw [e] at q; cases q; cases z
    | _ => exact hn
  cases o with
  | own y =>
    obtain ⟨C, fs, g⟩ := n
    obtain ⟨_, _, _, _, mA, ⟨od, _, _, q, d, _⟩, _⟩ := ok y _ g
    intro v z
    rw [e] at q; cases q; rw [z] at d; cases d
  | ins C dx fs =>
    obtain ⟨_, _, _, q, _⟩ := x
    intro v z
    rw [e] at q; cases q; cases z
  | ext φ => exact n h ob x.1 e
  | frz oo u => exact flat n x.2
  | lst xs => exact flat (u := .lst xs) trivial x
  | tup xs => exact flat (u := .tup xs) trivial x
  | dK kvs => exact flat (u := .dK kvs) trivial x
  | dT kvs => exact flat (u := .dT kvs) trivial x
  | set S k => exact flat (u := .set S k) trivial x
  | xd fs => exact flat (u := .xd fs) trivial x
  | rng a b => exact flat (u := .rng a b) trivial x
  | tbl ps => exact flat (u := .tbl ps) trivial x
  | met f y => exact flat (u := .met f y) trivial x
end
/-! ### contexts of both sides -/
/-- the generator's context at a caller X: its frame env, its names N, the around Aw of its wakings -/
def gX (P : Program) (w : World) (K : PySem.W.Frag) (mg : Str → Option Value) (base : Heap) (outer : List Env) (N : List Str) (env : Env) (Aw : Around) : Cx where
  prog := P
  w := w
  K := K
  mg := mg
  base := base
  A := Aw.deeper env
  N := N
  s_0 := {}
  H_0 := fun _ => none
  env := env
  outer := outer
  stack := env :: outer
  ex := []
  fn := fun _ => true
  calm := true
  pn := []
  xe := fun _ _ => False
/-- the caller's context, told anew from a state within its run -/
def reb (X : Cx) (s : Shared) (H : Hp) : Cx := { X with s_0 := { s with heap := cutH s.heap X.env.locals }, H_0 := H }
theorem funs_cut {h base : Heap} {L : Addr} : ∀ {l : List Env}, h.FunFrames base l → (∀ b ∈ frs l, b < L) → (cutH h L).FunFrames base l
  | [], _, _ => trivial
  | env :: r, hl, hb => by
    obtain ⟨hk, ⟨F, o, hf, hn, ho, hd⟩, hr⟩ := hl
    refine ⟨hk, ⟨F, o, hf, hn, ?_, hd⟩, funs_cut hr fun b hb2 => hb b ?_⟩
    · rw [cutH_get (hb F (by unfold frs; rw [List.filterMap_cons, hf]; exact List.mem_cons_self))]; exact ho
    · unfold frs
      rw [List.filterMap_cons, hf]; exact List.mem_cons_of_mem _ hb2
section
variable {X : Cx} {pins : List (Addr × Obj)} {σ : L2.St} {H : Hp} {s : Shared}
theorem frs_lt (I : Inv X pins σ H s) : ∀ b ∈ frs X.stack, b < s.heap.objs.size := fun b hb => by
  obtain ⟨_, o, ho, _⟩ := I.stack.mem hb
  exact Heap.lt_size ho
theorem out_lt (I : Inv X pins σ H s) : ∀ b ∈ X.fs, b < X.env.locals := fun b hb => by
  obtain ⟨_, o, ho, _⟩ := I.ok.funs.mem hb
  exact Nat.lt_of_lt_of_le (Heap.lt_size ho) I.ok.above
theorem base_lt (I : Inv X pins σ H s) {b : Addr} {o : Obj} (e : X.base.get? b = some o) : b < X.env.locals :=
  Nat.lt_of_lt_of_le (Heap.lt_size e) (Nat.le_trans I.ok.bsz I.ok.above)
theorem fs_none (I : Inv X pins σ H s) : ∀ b ∈ X.fs, H b = none := fun b hb => by
  obtain ⟨_, o, ho, _⟩ := I.ok.funs.mem hb
  exact I.base.free b o ho (I.ok.frf b hb) fun z => I.ok.exfs b z hb
/-- told anew -/
theorem inv_reb (I : Inv X pins σ H s) (hc : X.env.cells = []) : Inv (reb X s H) pins σ H s := by
  have szL : (cutH s.heap X.env.locals).objs.size = X.env.locals := cutH_size (Nat.le_of_lt I.lt)
  have noc : ∀ {x c}, X.env.cells.lookup x = some c → False := fun {x c} h => by rw [hc] at h; cases h
  refine ⟨⟨I.ok.mod, I.ok.kind, I.ok.glob, I.ok.blt, ?_, I.ok.inj, I.ok.has, fun x c _ h => (noc h).elim, I.ok.hd, I.ok.frames, I.ok.stk, I.ok.exf, fun b o e => ?_, ?_, I.ok.noex, I.ok.exfs, ?_, fun b hb => fs_none I b hb⟩,
    rfl, I.bare, ⟨fun b o e _ _ _ => (cutH_of e).2, fun b o e _ _ _ => ⟨o.slots, (cutH_of e).2⟩, fun _ _ _ n _ => n, fun b o e _ => ⟨o, (cutH_of e).2⟩, fun _ _ e => e, fun _ _ _ e => e, fun b ps e => ⟨#[], by rw [show H b = some (.tbl ps) from e]; simp⟩⟩,
    I.loc, I.cell, I.free, I.freeC, I.pin, I.hok, I.len⟩
  · exact Nat.le_of_eq szL
  · exact ⟨(cutH_get (base_lt I e)).trans (I.bs b o e).1, (I.bs b o e).2⟩
  · show X.base.objs.size ≤ (cutH s.heap X.env.locals).objs.size
    rw [szL]; exact Nat.le_trans I.ok.bsz I.ok.above
  · exact funs_cut I.funs (fun b hb => out_lt I b hb)
/-- and back, behind what ran there -/
theorem inv_unreb {σ' : L2.St} {H' : Hp} {s' : Shared} (I : Inv X pins σ H s) (hc : X.env.cells = []) (J : Inv (reb X s H) pins σ' H' s') : Inv X pins σ' H' s' := by
  have up : ∀ b o, X.s_0.heap.get? b = some o → b < X.env.locals := fun b o e => Nat.lt_of_lt_of_le (Heap.lt_size e) I.ok.above
  have cut : ∀ b o, X.s_0.heap.get? b = some o → ∀ o', s.heap.get? b = some o' → (cutH s.heap X.env.locals).get? b = some o' := fun b o e o' q => (cutH_get (up b o e)).trans q
  refine ⟨I.ok, J.os.trans I.os, J.bare, ⟨fun b o e n hb hx => ?_, fun b o e n hb hx => ?_, fun b o e n hx => ?_, fun b o e hx => ?_, fun b xs e => J.base.tups b xs (I.base.tups b xs e), fun b o u e => J.base.frzs b o u (I.base.frzs b o u e), fun b ps e => ?_⟩, J.loc, J.cell, J.free, J.freeC, J.pin, J.hok, J.len⟩
  · exact J.base.keep b o (cut b o e o (I.base.keep b o e n hb hx)) (I.base.free b o e n hx) hb hx
  · obtain ⟨sl, q⟩ := I.base.slot b o e n hb hx
    obtain ⟨sl', q'⟩ := J.base.slot b _ (cut b o e _ q) (I.base.free b o e n hx) hb hx
    exact ⟨sl', q'⟩
  · obtain ⟨o', q⟩ := I.base.there b o e hx
    exact J.base.free b o' (cut b o e o' q) (I.base.free b o e n hx) hx
  · obtain ⟨o', q⟩ := I.base.there b o e hx
    exact J.base.there b o' (cut b o e o' q) hx
  · obtain ⟨m1, q⟩ := I.base.tbls b ps e
    obtain ⟨m2, q2⟩ := J.base.tbls b _ q
    exact ⟨m1 ++ m2, by rw [q2, Array.append_assoc]⟩
end
/-! ### objects as they stand -/
open Classical in
/-- the things from L on of which p is true and which are no cells -/
noncomputable def yng (h : Heap) (L : Nat) (p : Addr → Prop) : List (Addr × Obj) := (List.range h.objs.size).filterMap fun b => match h.get? b with
  | some o => if L ≤ b ∧ p b ∧ (∀ v, o.data ≠ .cell v) then some (b, o) else none
  | none => none
theorem mem_yng {h : Heap} {L : Nat} {p : Addr → Prop} {b : Addr} {o : Obj} (e : h.get? b = some o) (hL : L ≤ b) (hp : p b) (hd : ∀ v, o.data ≠ .cell v) : (b, o) ∈ yng h L p := by
  refine List.mem_filterMap.mpr ⟨b, List.mem_range.mpr (Heap.lt_size e), ?_⟩
  rw [e]
  exact if_pos ⟨hL, hp, hd⟩
open Classical in
theorem of_yng {h : Heap} {L : Nat} {p : Addr → Prop} {q : Addr × Obj} (hq : q ∈ yng h L p) : L ≤ q.1 ∧ p q.1 ∧ h.get? q.1 = some q.2 ∧ ∀ v, q.2.data ≠ .cell v := by
  obtain ⟨b, _, e⟩ := List.mem_filterMap.mp hq
  cases z : h.get? b with
  | none => rw [z] at e; cases e
  | some o =>
    rw [z] at e
    by_cases c : L ≤ b ∧ p b ∧ (∀ v, o.data ≠ .cell v)
    · have e' : (if L ≤ b ∧ p b ∧ (∀ v, o.data ≠ .cell v) then some (b, o) else none) = some q := e
      rw [if_pos c] at e'; cases e'
      exact ⟨c.1, c.2.1, z, c.2.2⟩
    · have e' : (if L ≤ b ∧ p b ∧ (∀ v, o.data ≠ .cell v) then some (b, o) else none) = some q := e
      rw [if_neg c] at e'; cases e'
end G

namespace G
open PySem PySem.Spec PyProof.Rows L2 GenW
/-! ### what was freed stays so -/
structure Dd (h h' : Heap) : Prop where
  sz : h.objs.size ≤ h'.objs.size
  dead : ∀ b, b < h.objs.size → h.get? b = none → h'.get? b = none
theorem Dd.refl (h : Heap) : Dd h h := ⟨Nat.le_refl _, fun _ _ e => e⟩
theorem Dd.trans {a b c : Heap} (x : Dd a b) (y : Dd b c) : Dd a c := ⟨Nat.le_trans x.sz y.sz, fun d l e => y.dead d (Nat.lt_of_lt_of_le l x.sz) (x.dead d l e)⟩
theorem dd_push (h : Heap) (o : Obj) : Dd h (h.push o) := ⟨by rw [Heap.size_push]; exact Nat.le_succ _, fun b l e => by
  refine (get_objs ?_).trans e
  show (h.objs.push o)[b]? = h.objs[b]?
  rw [Array.getElem?_push, if_neg (Nat.ne_of_lt l)]⟩
theorem dd_update {h : Heap} {a : Addr} {f : Obj → Obj} (ha : (h.get? a).isSome = true) : Dd h (h.update a f) := ⟨by rw [Heap.size_update]; exact Nat.le_refl _, fun b l e => by
  have ne : a ≠ b := fun z => by subst z; rw [e] at ha; cases ha
  rw [Heap.get?_update_other _ _ ne]; exact e⟩
theorem runs_dd {M : Model} {Γ : PySem.Ctx} {p : Pos} {t : Sem PySem.Fin} {fs : List Frame} {s s' : Shared} {e : End} (h : Runs M Γ p t fs s e s') : Dd s.heap s'.heap := by
  induction h with
  | update ho _ ih => exact (dd_update ho).trans ih
  | alloc _ ih => exact (dd_push _ _).trans ih
  | call _ _ a b => exact a.trans b
  | resumeFresh _ _ _ _ a b => exact Dd.trans (show Dd _ _ from a) b
  | resumeSuspended _ _ _ _ a b => exact Dd.trans (show Dd _ _ from a) b
  | segRet _ _ a b => exact a.trans b
  | segGen _ _ a b => exact Dd.trans (show Dd _ _ from a) b
  | segSuspGen _ _ _ _ a b => exact Dd.trans (show Dd _ _ from a) b
  | done => exact Dd.refl _
  | raise => exact Dd.refl _
  | yield => exact Dd.refl _
  | again _ _ ih => exact ih
  | rule _ ih => exact ih
  | «at» _ ih => exact ih
  | load _ _ ih => exact ih
  | loadIfAlive _ ih => exact ih
  | point _ ih => exact ih
  | fresh _ ih => exact ih
  | ask _ ih => exact ih
  | choose _ _ ih => exact ih
  | os _ ih => exact ih
  | handled _ ih => exact ih
  | genState _ _ ih => exact ih
  | stack _ ih => exact ih
  | thread _ ih => exact ih
  | newGen _ ih => exact ih
  | callSusp _ ih => exact ih
  | resumeJustStarted _ _ _ ih => exact ih
  | resumeThrowFresh _ _ ih => exact ih
  | resumeRunning _ _ ih => exact ih
  | resumeFinished _ _ ih => exact ih
  | segSuspOut _ _ ih => exact ih
theorem wakes_dd {M : Model} {Γ : PySem.Ctx} {p : Pos} {g : Nat} {r : Resume} {s s' : Shared} {res : GenResult} (h : Wakes M Γ p g r s res s') : Dd s.heap s'.heap := by
  unfold Wakes at h
  split at h
  · exact h.elim
  · split at h
    · obtain ⟨e₁, s₁, hr, _, _, rfl⟩ := h
      have q := runs_dd hr
      exact q
    · rw [h.2]; exact Dd.refl _
    · rw [h.2]; exact Dd.refl _
  · obtain ⟨e₁, s₁, hr, _, _, rfl⟩ := h
    have q := runs_dd hr
    exact q
  · rw [h.2]; exact Dd.refl _
  · rw [h.2]; exact Dd.refl _
/-! ### the two abstract heaps -/
open Classical in
noncomputable def hideM (H : Hp) (M : List Addr) : Hp := fun b => if b ∈ M then none else H b
theorem hide_in {H : Hp} {M : List Addr} {b : Addr} (h : b ∈ M) : hideM H M b = none := if_pos h
theorem hide_out {H : Hp} {M : List Addr} {b : Addr} (h : b ∉ M) : hideM H M b = H b := if_neg h
theorem hide_some {H : Hp} {M : List Addr} {b : Addr} {o : HO} (h : hideM H M b = some o) : b ∉ M ∧ H b = some o := by
  by_cases m : b ∈ M
  · rw [hide_in m] at h; cases h
  · rw [hide_out m] at h; exact ⟨m, h⟩
open Classical in
/-- A with what B may hand over -/
noncomputable def mix (A B : Hp) : Hp := fun b => match A b with
  | some o => some o
  | none => match B b with
    | some o => if Exp o then some o else none
    | none => none
section
variable {A B : Hp} {b : Addr} {o : HO}
theorem mix_l (h : A b = some o) : mix A B b = some o := by unfold mix; rw [h]
theorem mix_r (h : A b = none) (h2 : B b = some o) (e : Exp o) : mix A B b = some o := by
  unfold mix
  rw [h, h2]
  exact if_pos e
theorem mix_nr (h : A b = none) (h2 : ∀ o, B b = some o → ¬ Exp o) : mix A B b = none := by
  unfold mix
  rw [h]
  cases z : B b with
  | none => rfl
  | some o => exact if_neg (h2 o z)
theorem mix_n (h : A b = none) (h2 : B b = none) : mix A B b = none := mix_nr h fun o z => by rw [h2] at z; cases z
theorem of_mix (h : mix A B b = some o) : A b = some o ∨ (A b = none ∧ B b = some o ∧ Exp o) := by
  cases z : A b with
  | some o' => rw [mix_l z] at h; exact .inl h
  | none =>
    refine .inr ⟨rfl, ?_⟩
    cases y : B b with
    | none => rw [mix_n z y] at h; cases h
    | some o' =>
      by_cases e : Exp o'
      · rw [mix_r z y e] at h; cases h; exact ⟨rfl, e⟩
      · rw [mix_nr z (fun o2 q => by rw [y] at q; cases q; exact e)] at h; cases h
theorem mix_none (h : mix A B b = none) : A b = none := by
  cases z : A b with
  | none => rfl
  | some o => rw [mix_l z] at h; cases h
theorem exp_nc {H H' : Hp} (e : Exp o) : NCo H H' b o := by
  cases o with
  | tup _ => trivial
  | frz ob u => cases u <;> first | trivial | exact e.elim
  | _ => exact e.elim
theorem chg_mix {M : List Addr} : Chg M A (mix A B) :=
  ⟨fun b o h _ => mix_l h, fun b h => mix_none h, fun a C dx fs h => ⟨fs, mix_l h⟩, fun b o h => (of_mix h).imp id fun q => exp_nc q.2.2⟩
end
theorem flt_exp {o : HO} (h : Flt o) (e : Exp o) : False := by cases o <;> first | exact h | exact e
theorem obj_own {P : Program} {w : World} {H : Hp} {h : Heap} {a dx : Addr} {o : HO} (x : ObjOk P w H h a o) (e : insOf o = some dx) : H dx = some (.own a) := by
  induction o with
  | ins C d fs =>
    obtain ⟨q, _⟩ := x
    have z : d = dx := Option.some.inj e
    rw [← z]; exact q
  | frz ob u ih => exact ih x.2 e
  | _ => cases e
theorem exp_stays {fs ex : List Addr} {H H' : Hp} {h h' : Heap} (u : Un fs ex H H' h h') {b : Addr} {o : HO} (e : Exp o) (q : H b = some o) : H' b = some o := by
  cases o with
  | tup xs => exact u.tups b xs q
  | frz ob v => exact u.frzs b ob v q
  | _ => exact e.elim
/-- what is fixed through the loop -/
structure Sd (X : Cx) (env : Env) (H1 : Hp) (M : List Addr) (pins : List (Addr × Obj)) : Prop where
  cX : X.env.cells = []
  cG : env.cells = []
  lt : ∀ b o, H1 b = some o → b < env.locals
  fr : ∀ b ∈ frs X.stack, b < env.locals
  xl : X.env.locals < env.locals
  pl : ∀ p ∈ X.pn ++ pins, p.1 < env.locals
/-- how the generator's abstract heap and the caller's go together -/
structure Rel (env : Env) (H1 : Hp) (M : List Addr) (Hg Hc : Hp) : Prop where
  mm : ∀ b ∈ M, Hg b = none
  gg : Chg [] (hideM H1 M) Hg
  cc : Chg M H1 Hc
  ol : ∀ b, b < env.locals → Hc b = none → Hg b = none
  sh : ∀ b o, H1 b = none → Hg b = some o → Hc b = none ∨ (Hc b = some o ∧ Exp o)
  fm : ∀ b ∈ M, ∃ o, Hc b = some o ∧ Flt o
  dm : ∀ b ∈ M, ∃ o, H1 b = some o
theorem Rel.old {env : Env} {H1 : Hp} {M : List Addr} {Hg Hc : Hp} (R : Rel env H1 M Hg Hc) {b : Addr} {o : HO} (h : H1 b = some o) (m : b ∉ M) : Hg b = some o ∧ Hc b = some o :=
  ⟨R.gg.keep b o (by rw [hide_out m]; exact h) (.inl List.not_mem_nil), R.cc.keep b o h (.inl m)⟩
theorem Rel.cnew {env : Env} {H1 : Hp} {M : List Addr} {Hg Hc : Hp} (R : Rel env H1 M Hg Hc) {b : Addr} {o : HO} (h : H1 b = none) (q : Hc b = some o) : NCo H1 Hc b o := by
  rcases R.cc.new b o q with z | z
  · rw [h] at z; cases z
  · exact z
theorem Rel.gnew {env : Env} {H1 : Hp} {M : List Addr} {Hg Hc : Hp} (R : Rel env H1 M Hg Hc) {b : Addr} {o : HO} (h : H1 b = none) (q : Hg b = some o) : NCo (hideM H1 M) Hg b o := by
  rcases R.gg.new b o q with z | z
  · rw [(hide_some z).2] at h; cases h
  · exact z
end G

namespace G
open PySem PySem.Spec PyProof.Rows L2 GenW
section
variable {X : Cx} {N : List Str} {env : Env} {Aw : Around} {q n : Nat} {it : Nat → V → Hp → Prop} {H1 Hg Hc Hy Hs : Hp} {M : List Addr} {pins ip ip' : List (Addr × Obj)} {σ σg σ' : L2.St} {s so sy : Shared} {g0 : Addr × Obj}
abbrev FF (X : Cx) (N : List Str) (env : Env) (Aw : Around) (q n : Nat) (it : Nat → V → Hp → Prop) (Hs : Hp) (g0 : Addr × Obj) : GF := ⟨gX X.prog X.w X.K X.mg X.base X.stack N env Aw, q, n, it, Hs, g0⟩
/-- what is to stand while the generator runs -/
noncomputable def toStand (h : Heap) (env : Env) (Hg : Hp) (ip : List (Addr × Obj)) : List (Addr × Obj) := yng h (env.locals + 1) fun b => Hg b = none ∧ ∀ p ∈ ip, p.1 ≠ b
/-- the generator's own: its frame, its iterators -/
def Own (env : Env) (Hc : Hp) (ip : List (Addr × Obj)) : Prop := Hc env.locals = none ∧ ∀ p ∈ ip, env.locals ≤ p.1 ∧ Hc p.1 = none
open Classical in
theorem filt (n : Nat) (p : Nat → Prop) : ∃ l : List Nat, ∀ b, b ∈ l ↔ (b < n ∧ p b) :=
  ⟨(List.range n).filter fun b => decide (p b), fun b => by rw [List.mem_filter, List.mem_range, decide_eq_true_iff]⟩
/-- it is woken -/
theorem wake_inv {G : Array GenState} (hg0 : g0 ∈ ip) (S : Sd X env H1 M pins) (I : Inv X pins σ Hc s) (J : Inv ((FF X N env Aw q n it Hs g0).at s (Hg, [])) ip σg Hg s) (hG : AllBare G) (O : Own env Hc ip) :
    Inv ((FF X N env Aw q n it Hs g0).at { s with gens := G } (Hg, toStand s.heap env Hg ip)) ip σg Hg { s with gens := G } ∧ IpOk (FF X N env Aw q n it Hs g0) (Hg, toStand s.heap env Hg ip) { s with gens := G } ip := by
  have hL : env.locals < s.heap.objs.size := J.lt
  refine ⟨⟨⟨J.ok.mod, J.ok.kind, J.ok.glob, J.ok.blt, J.ok.above, J.ok.inj, J.ok.has, J.ok.cab, J.ok.hd, J.ok.frames, J.ok.stk, J.ok.exf, J.ok.bs, J.ok.bsz, J.ok.noex, J.ok.exfs, J.ok.funs, J.ok.frf⟩,
    rfl, hG, J.base, J.loc, J.cell, J.free, J.freeC, fun p hp => ?_, J.hok, J.len⟩, ⟨Nat.le_of_lt hL, hg0⟩, fun p hp => ⟨(O.2 p hp).1, fun p' hp' => ?_⟩⟩
  · rcases List.mem_append.mp hp with hp | hp
    · obtain ⟨a, ⟨b, _⟩, c, d⟩ := of_yng hp
      refine ⟨c, b, ?_, fun z => ?_, d⟩
      · exact Nat.ne_of_gt (Nat.lt_of_succ_le a)
      · exact absurd (S.fr _ z) (Nat.not_lt_of_le (Nat.le_of_succ_le a))
    · exact J.pin p (List.mem_append_right _ hp)
  · obtain ⟨_, ⟨_, b⟩, _, _⟩ := of_yng hp'
    exact fun z => b p hp z.symm
/-- one piece of the generator's run, told of the caller's heap -/
theorem taken (S : Sd X env H1 M pins) (I : Inv X pins σ Hc s) (R : Rel env H1 M Hg Hc) (O : Own env Hc ip) (hh : so.heap = s.heap) (hos : so.os = s.os)
    (J : Inv ((FF X N env Aw q n it Hs g0).at so (Hg, toStand s.heap env Hg ip)) ip' σ' Hy sy) (hc : Chg [] (hideM H1 M) Hy) (ho : IpOk (FF X N env Aw q n it Hs g0) (Hg, toStand s.heap env Hg ip) so ip') (hd : Dd s.heap sy.heap) :
    Inv X pins σ (mix Hc Hy) sy ∧ Rel env H1 M Hy (mix Hc Hy) ∧ (∀ b o, Hy b = some o → Exp o → mix Hc Hy b = some o) ∧ Own env (mix Hc Hy) ip' := by
  have fcut : ∀ {b : Addr} {o : Obj}, b < env.locals → s.heap.get? b = some o → ((FF X N env Aw q n it Hs g0).at so (Hg, toStand s.heap env Hg ip)).s_0.heap.get? b = some o := fun {b o} hb e => by
    show (cutH so.heap env.locals).get? b = some o
    rw [hh, cutH_get hb]; exact e
  have stand : ∀ {b : Addr} {o : Obj}, ¬ b < env.locals → s.heap.get? b = some o → b ≠ env.locals → Hg b = none → (∀ p ∈ ip, p.1 ≠ b) → (∀ v, o.data ≠ .cell v) → sy.heap.get? b = some o ∧ Hy b = none ∧ (b, o) ∈ toStand s.heap env Hg ip := fun {b o} hb e hl hg hi hd => by
    have m : (b, o) ∈ toStand s.heap env Hg ip := mem_yng e (Nat.succ_le_of_lt (Nat.lt_of_le_of_ne (Nat.le_of_not_lt hb) (Ne.symm hl))) ⟨hg, hi⟩ hd
    obtain ⟨q1, q2, _⟩ := J.pin (b, o) (List.mem_append_left _ m)
    exact ⟨q1, q2, m⟩
  have nfr : ∀ {b : Addr} {o : HO}, Hc b = some o → b ∉ frs X.stack := fun {b o} e z => by rw [I.stkFree b z] at e; cases e
  have keepLo : ∀ {b : Addr} {o : Obj}, b < env.locals → Hg b = none → b ∉ frs X.stack → s.heap.get? b = some o → sy.heap.get? b = some o := fun {b o} hb hg hf e => J.base.keep b o (fcut hb e) hg hf List.not_mem_nil
  -- a thing that the caller alone knows stands
  have alone : ∀ {b : Addr} {o : HO}, H1 b = none → Hc b = some o → Hg b = none → (∀ u, s.heap.get? b = some u → sy.heap.get? b = some u) ∧ Hy b = none := fun {b o} h1 hcb hg => by
    obtain ⟨ob, e⟩ := obj_at (I.hok b o hcb)
    by_cases hb : b < env.locals
    · refine ⟨fun u e => keepLo hb hg (nfr hcb) e, J.base.free b ob (fcut hb e) hg List.not_mem_nil⟩
    · have nc := obj_nc I.hok (I.hok b o hcb) (R.cnew h1 hcb) e
      obtain ⟨q1, q2, _⟩ := stand hb e (fun z => by rw [z, O.1] at hcb; cases hcb) hg (fun p hp z => by rw [← z, (O.2 p hp).2] at hcb; cases hcb) nc
      exact ⟨fun u e' => by rw [e] at e'; cases e'; exact q1, q2⟩
  -- both know the same
  have agree : ∀ {b : Addr} {o oc : HO}, Hy b = some o → Hc b = some oc → oc = o ∧ (H1 b = none → Exp o) := fun {b o oc} hy hcb => by
    cases h1 : H1 b with
    | some o1 =>
      by_cases m : b ∈ M
      · have := (hide_in (H := H1) m)
        obtain ⟨ob, e⟩ := obj_at (I.hok b oc hcb)
        have z := J.base.free b ob (fcut (S.lt b o1 h1) e) (R.mm b m) List.not_mem_nil
        rw [hy] at z; cases z
      · have z1 := (R.old h1 m).2
        have z2 := hc.keep b o1 (by rw [hide_out m]; exact h1) (.inl List.not_mem_nil)
        rw [hcb] at z1; rw [hy] at z2
        exact ⟨(Option.some.inj z1).trans (Option.some.inj z2).symm, fun z => nomatch z⟩
    | none =>
      cases hg : Hg b with
      | none =>
        rw [(alone h1 hcb hg).2] at hy; cases hy
      | some og =>
        rcases R.sh b og h1 hg with z | ⟨z, ex⟩
        · rw [hcb] at z; cases z
        · have y := exp_stays J.base ex hg
          rw [hcb] at z; rw [hy] at y
          cases z; cases y
          exact ⟨rfl, fun _ => ex⟩
  have four : ∀ b o, Hy b = some o → Exp o → mix Hc Hy b = some o := fun b o hy ex => by
    cases hcb : Hc b with
    | none => exact mix_r hcb hy ex
    | some oc => rw [mix_l hcb, (agree hy hcb).1]
  have ht1 : ∀ b xs, Hc b = some (.tup xs) → mix Hc Hy b = some (.tup xs) := fun b xs h => mix_l h
  have ht2 : ∀ b xs, Hy b = some (.tup xs) → mix Hc Hy b = some (.tup xs) := fun b xs h => four b _ h trivial
  have hok : HOk X.prog X.w (mix Hc Hy) sy.heap := fun b o hm => by
    rcases of_mix hm with hcb | ⟨hcb, hy, ex⟩
    · have x0 := I.hok b o hcb
      cases h1 : H1 b with
      | some o1 =>
        by_cases m : b ∈ M
        · obtain ⟨o', hf, fl⟩ := R.fm b m
          rw [hcb] at hf; cases hf
          refine obj_mv x0 (fun u e => keepLo (S.lt b o1 h1) (R.mm b m) (nfr hcb) e) (fun dx z => ?_) ht1
          rw [flt_ins fl] at z; cases z
        · have z1 := (R.old h1 m).2
          rw [hcb] at z1
          obtain rfl := Option.some.inj z1
          have hy := hc.keep b o (by rw [hide_out m]; exact h1) (.inl List.not_mem_nil)
          exact obj_mv (J.hok b o hy) (fun u e => e) (fun dx z => ⟨fun u e => e, mix_l (obj_own x0 z)⟩) ht2
      | none =>
        cases hg : Hg b with
        | some og =>
          rcases R.sh b og h1 hg with z | ⟨z, ex⟩
          · rw [hcb] at z; cases z
          · rw [hcb] at z; cases z
            have hy := exp_stays J.base ex hg
            refine obj_mv (J.hok b o hy) (fun u e => e) (fun dx z => ?_) ht2
            rw [exp_ins ex] at z; cases z
        | none =>
          refine obj_mv x0 (alone h1 hcb hg).1 (fun dx z => ?_) ht1
          have own := obj_own x0 z
          have nc := R.cnew h1 hcb
          have h1d : H1 dx = none := by
            cases o with
            | ins C d fs =>
              have e : d = dx := Option.some.inj z
              rcases nc with k | ⟨fs', k⟩
              · rw [← e]; exact k
              · rw [h1] at k; cases k
            | frz ob u => cases u <;> first | exact nc.elim | cases z
            | _ => cases z
          have hgd : Hg dx = none := by
            cases k : Hg dx with
            | none => rfl
            | some od =>
              rcases R.sh dx od h1d k with y | ⟨y, ex⟩
              · rw [own] at y; cases y
              · rw [own] at y; cases y; exact ex.elim
          exact ⟨(alone h1d own hgd).1, mix_l own⟩
    · refine obj_mv (J.hok b o hy) (fun u e => e) (fun dx z => ?_) ht2
      rw [exp_ins ex] at z; cases z
  -- what may have turned
  obtain ⟨ch, hmem⟩ := filt s.heap.objs.size fun b => env.locals ≤ b ∧ Hc b = none ∧ ∀ o, (b, o) ∉ toStand s.heap env Hg ip
  have nch : ∀ {b : Addr} {o : Obj}, b ∉ ch → s.heap.get? b = some o → ¬ b < env.locals → Hc b = none → ∃ o', (b, o') ∈ toStand s.heap env Hg ip := fun {b ob} hb e hl hcb => by
    refine Classical.byContradiction fun z => hb ?_
    exact (hmem b).mpr ⟨Heap.lt_size e, Nat.le_of_not_lt hl, hcb, fun o2 m => z ⟨o2, m⟩⟩
  have pinned : ∀ {b : Addr} {o o' : Obj}, s.heap.get? b = some o → (b, o') ∈ toStand s.heap env Hg ip → sy.heap.get? b = some o ∧ Hy b = none := fun {b o o'} e m => by
    obtain ⟨_, _, z, _⟩ := of_yng m
    rw [e] at z
    have z' : o = o' := Option.some.inj z
    obtain ⟨q1, q2, _⟩ := J.pin (b, o') (List.mem_append_left _ m)
    exact ⟨by rw [z']; exact q1, q2⟩
  have un : Un (frs X.stack) ch Hc (mix Hc Hy) s.heap sy.heap := by
    refine ⟨fun b o e hcb hf hx => ?_, fun b o e hcb hf hx => ?_, fun b o e hcb hx => ?_, fun b o e hx => ?_, fun b xs h => mix_l h, fun b ob u h => mix_l h, fun b ps h => ⟨#[], by rw [mix_l h]; simp⟩⟩
    · by_cases hb : b < env.locals
      · exact keepLo hb (R.ol b hb hcb) hf e
      · obtain ⟨o', m⟩ := nch hx e hb hcb
        exact (pinned e m).1
    · have hb := S.fr b hf
      exact J.base.slot b o (fcut hb e) (R.ol b hb hcb) hf List.not_mem_nil
    · refine mix_n hcb ?_
      by_cases hb : b < env.locals
      · exact J.base.free b o (fcut hb e) (R.ol b hb hcb) List.not_mem_nil
      · obtain ⟨o', m⟩ := nch hx e hb hcb
        exact (pinned e m).2
    · by_cases hb : b < env.locals
      · exact J.base.there b o (fcut hb e) List.not_mem_nil
      · cases hcb : Hc b with
        | none =>
          obtain ⟨o', m⟩ := nch hx e hb hcb
          exact ⟨o, (pinned e m).1⟩
        | some oc => exact obj_at (hok b oc (mix_l hcb))
  have hxl : X.env.locals < env.locals := S.xl
  have hch : ∀ b ∈ ch, (b ∈ X.ex ∨ X.s_0.heap.objs.size ≤ b) ∧ b ≠ X.env.locals ∧ (∀ x c, X.env.cells.lookup x = some c → c ≠ b) ∧ ∀ p ∈ X.pn ++ pins, p.1 ≠ b := fun b hb => by
    have hl : env.locals ≤ b := ((hmem b).mp hb).2.1
    refine ⟨.inr (Nat.le_trans I.ok.above (Nat.le_trans (Nat.le_of_lt hxl) hl)), Nat.ne_of_gt (Nat.lt_of_lt_of_le hxl hl), fun x c e => ?_, fun p hp => Nat.ne_of_lt (Nat.lt_of_lt_of_le (S.pl p hp) hl)⟩
    rw [S.cX] at e; cases e
  refine ⟨I.call' (J.os.trans hos) un hok J.bare hch, ⟨fun b m => ?_, hc, R.cc.trans (chg_mix (M := M)), fun b hb hm => ?_, fun b o h1 hy => ?_, fun b m => ?_, R.dm⟩, four, ⟨?_, fun p hp => ?_⟩⟩
  · obtain ⟨o1, h1⟩ := R.dm b m
    obtain ⟨oc, hcb, _⟩ := R.fm b m
    obtain ⟨ob, e⟩ := obj_at (I.hok b oc hcb)
    exact J.base.free b ob (fcut (S.lt b o1 h1) e) (R.mm b m) List.not_mem_nil
  · have hcb := mix_none hm
    cases e : s.heap.get? b with
    | some ob => exact J.base.free b ob (fcut hb e) (R.ol b hb hcb) List.not_mem_nil
    | none =>
      cases hy : Hy b with
      | none => rfl
      | some o =>
        obtain ⟨ob, e2⟩ := obj_at (J.hok b o hy)
        have hsz : b < s.heap.objs.size := by
          have z : env.locals ≤ s.heap.objs.size := by rw [← hh]; exact ho.1.1
          exact Nat.lt_of_lt_of_le hb z
        rw [hd.dead b hsz e] at e2; cases e2
  · cases hcb : Hc b with
    | some oc =>
      obtain ⟨z1, z2⟩ := agree hy hcb
      exact .inr ⟨by rw [mix_l hcb, z1], z2 h1⟩
    | none =>
      by_cases ex : Exp o
      · exact .inr ⟨mix_r hcb hy ex, ex⟩
      · exact .inl (mix_nr hcb fun o' z => by rw [hy] at z; cases z; exact ex)
  · obtain ⟨o, h1, h2⟩ := R.fm b m
    exact ⟨o, mix_l h1, h2⟩
  · exact mix_n O.1 J.free
  · obtain ⟨h1, h2⟩ := ho.2 p hp
    obtain ⟨j1, j2, j3, _, j5⟩ := J.pin p (List.mem_append_right _ hp)
    refine ⟨h1, mix_n ?_ j2⟩
    cases hcb : Hc p.1 with
    | none => rfl
    | some oc =>
      exfalso
      obtain ⟨ob, e⟩ := obj_at (I.hok _ oc hcb)
      have h1n : H1 p.1 = none := by
        cases z : H1 p.1 with
        | none => rfl
        | some o1 => exact absurd (S.lt _ o1 z) (Nat.not_lt_of_le h1)
      cases hg : Hg p.1 with
      | some og =>
        rcases R.sh _ og h1n hg with z | ⟨z, ex⟩
        · rw [hcb] at z; cases z
        · rw [exp_stays J.base ex hg] at j2; cases j2
      | none =>
        have nc := obj_nc I.hok (I.hok _ oc hcb) (R.cnew h1n hcb) e
        obtain ⟨_, _, m⟩ := stand (Nat.not_lt_of_le h1) e j3 hg (fun p0 hp0 z => by rw [← z, (O.2 p0 hp0).2] at hcb; cases hcb) nc
        exact h2 _ m rfl
/-- what the caller leaves alone while the generator sleeps -/
noncomputable def asleep (h : Heap) (env : Env) (Hc : Hp) : List (Addr × Obj) := yng h env.locals fun b => Hc b = none
theorem asleep_pin {Z : Zk} {s1 : Shared} (S : Sd X env H1 M pins) (I : Inv X pins σ Hc s1) (hs : s1.heap = sy.heap) : Inv X (pins ++ asleep sy.heap env Hc) σ Hc s1 :=
  I.pins_of fun p hp => (List.mem_append.mp hp).elim (fun z => I.pin p (List.mem_append_right _ z)) fun z => by
    obtain ⟨a, b, c, d⟩ := of_yng z
    have hxl : X.env.locals < env.locals := S.xl
    refine ⟨by rw [hs]; exact c, b, Nat.ne_of_gt (Nat.lt_of_lt_of_le hxl a), fun q => ?_, d⟩
    have := out_lt I p.1 q
    exact absurd (Nat.lt_trans this hxl) (Nat.not_lt_of_le a)
/-- the caller's turn, told of the generator -/
theorem slept {Z : Zk} {s1 s2 : Shared} {Hd : Hp} {σ2 : L2.St} (S : Sd X env H1 M pins) (I : Inv X pins σ Hc s1) (hs : s1.heap = sy.heap) (R : Rel env H1 M Hy Hc) (O : Own env Hc ip) (J : Inv ((FF X N env Aw q n it Hs g0).at so Z) ip σ' Hy sy)
    (I2 : Inv (reb X s1 Hc) (pins ++ asleep sy.heap env Hc) σ2 Hd s2) (cc : Chg M H1 Hd) (fm : ∀ b ∈ M, ∃ o, Hd b = some o ∧ Flt o) :
    Inv X pins σ2 Hd s2 ∧ Rel env H1 M (mix Hy Hd) Hd ∧ Inv ((FF X N env Aw q n it Hs g0).at s2 (mix Hy Hd, [])) ip σ' (mix Hy Hd) s2 ∧ Own env Hd ip := by
  have K : Inv X pins σ2 Hd s2 := inv_unreb I S.cX I2.unpinned
  have pinned : ∀ {b : Addr} {o : Obj}, env.locals ≤ b → Hc b = none → sy.heap.get? b = some o → (∀ v, o.data ≠ .cell v) → s2.heap.get? b = some o ∧ Hd b = none := fun {b o} h1 h2 e h3 => by
    obtain ⟨q1, q2, _⟩ := I2.pin (b, o) (List.mem_append_right _ (List.mem_append_right _ (mem_yng e h1 h2 h3)))
    exact ⟨q1, q2⟩
  have frame : ∃ o, sy.heap.get? env.locals = some o ∧ ∀ v, o.data ≠ .cell v := by
    obtain ⟨m, ⟨o, es, ep, ho, hd, _⟩, _⟩ := J.loc
    exact ⟨o, ho, fun v z => by rw [hd] at z; cases z⟩
  obtain ⟨oL, hL, nL⟩ := frame
  obtain ⟨fL, fL2⟩ := pinned (Nat.le_refl _) O.1 hL nL
  -- what the generator alone knows
  have priv : ∀ {b : Addr} {o : HO}, H1 b = none → Hy b = some o → Hc b = none → (∀ u, sy.heap.get? b = some u → s2.heap.get? b = some u) ∧ Hd b = none := fun {b o} h1 hy hcb => by
    obtain ⟨ob, e⟩ := obj_at (J.hok b o hy)
    have hb : env.locals ≤ b := Nat.le_of_not_lt fun z => by rw [R.ol b z hcb] at hy; cases hy
    obtain ⟨q1, q2⟩ := pinned hb hcb e (obj_nc J.hok (J.hok b o hy) (R.gnew h1 hy) e)
    exact ⟨fun u z => by rw [e] at z; cases z; exact q1, q2⟩
  have sh2 : ∀ b o, H1 b = none → Hy b = some o → Hd b = none ∨ (Hd b = some o ∧ Exp o) := fun b o h1 hy => by
    rcases R.sh b o h1 hy with z | ⟨z, ex⟩
    · exact .inl (priv h1 hy z).2
    · exact .inr ⟨exp_stays I2.base ex z, ex⟩
  have old : ∀ {b : Addr} {o o1 : HO}, H1 b = some o1 → Hy b = some o → Hd b = some o := fun {b o o1} h1 hy => by
    have m : b ∉ M := fun m => by rw [R.mm b m] at hy; cases hy
    have z := (R.old h1 m).1
    rw [hy] at z; cases z
    exact cc.keep b _ h1 (.inl m)
  have four : ∀ b o, Hd b = some o → Exp o → mix Hy Hd b = some o := fun b o hd ex => by
    cases hy : Hy b with
    | none => exact mix_r hy hd ex
    | some oy =>
      rw [mix_l hy]
      cases h1 : H1 b with
      | some o1 => rw [old h1 hy] at hd; exact hd
      | none =>
        rcases sh2 b oy h1 hy with z | ⟨z, _⟩
        · rw [hd] at z; cases z
        · rw [hd] at z; exact z.symm
  have ht1 : ∀ b xs, Hy b = some (.tup xs) → mix Hy Hd b = some (.tup xs) := fun b xs h => mix_l h
  have ht2 : ∀ b xs, Hd b = some (.tup xs) → mix Hy Hd b = some (.tup xs) := fun b xs h => four b _ h trivial
  have hok : HOk X.prog X.w (mix Hy Hd) s2.heap := fun b o hm => by
    rcases of_mix hm with hy | ⟨hy, hd, ex⟩
    · have x0 := J.hok b o hy
      cases h1 : H1 b with
      | some o1 => exact obj_mv (K.hok b o (old h1 hy)) (fun u e => e) (fun dx z => ⟨fun u e => e, mix_l (obj_own x0 z)⟩) ht2
      | none =>
        rcases R.sh b o h1 hy with hcb | ⟨hcb, ex⟩
        · refine obj_mv x0 (priv h1 hy hcb).1 (fun dx z => ?_) ht1
          have own := obj_own x0 z
          have nc := R.gnew h1 hy
          have h1d : H1 dx = none := by
            cases k : H1 dx with
            | none => rfl
            | some o1 =>
              exfalso
              have m : dx ∉ M := fun m => by rw [R.mm dx m] at own; cases own
              cases o with
              | ins C d fs =>
                have e : d = dx := Option.some.inj z
                rcases nc with y | ⟨fs', y⟩
                · rw [e, hide_out m, k] at y; cases y
                · rw [(hide_some y).2] at h1; cases h1
              | frz ob u => cases u <;> first | exact nc.elim | cases z
              | _ => cases z
          have hcd : Hc dx = none := by
            rcases R.sh dx _ h1d own with y | ⟨_, ex⟩
            · exact y
            · exact ex.elim
          exact ⟨(priv h1d own hcd).1, mix_l own⟩
        · refine obj_mv (K.hok b o (exp_stays I2.base ex hcb)) (fun u e => e) (fun dx z => ?_) ht2
          rw [exp_ins ex] at z; cases z
    · refine obj_mv (K.hok b o hd) (fun u e => e) (fun dx z => ?_) ht2
      rw [exp_ins ex] at z; cases z
  have hLs : env.locals < s2.heap.objs.size := Heap.lt_size fL
  have hxl : X.env.locals < env.locals := S.xl
  have szL : (cutH s2.heap env.locals).objs.size = env.locals := cutH_size (Nat.le_of_lt hLs)
  have noc : ∀ {x c}, env.cells.lookup x = some c → False := fun {x c} h => by rw [S.cG] at h; cases h
  have gone : ∀ {b : Addr}, Hy b = none → Hd b = none → mix Hy Hd b = none := fun h1 h2 => mix_n h1 h2
  have blo : ∀ {b : Addr} {o : Obj}, X.base.get? b = some o → b < env.locals := fun e => Nat.lt_trans (base_lt K e) hxl
  refine ⟨K, ⟨fun b m => ?_, R.gg.trans chg_mix, cc, fun b hb hd => ?_, fun b o h1 hm => ?_, fm, R.dm⟩, ⟨⟨J.ok.mod, J.ok.kind, J.ok.glob, J.ok.blt, ?_, J.ok.inj, J.ok.has, fun x c _ h => (noc h).elim, J.ok.hd, J.ok.frames, J.ok.stk, fun b z => (by cases z), fun b o e => ?_, ?_, fun b o _ => List.not_mem_nil, fun b z => (by cases z), ?_, fun b hb => ?_⟩,
    rfl, K.bare, ⟨fun b o e _ _ _ => (cutH_of e).2, fun b o e _ _ _ => ⟨o.slots, (cutH_of e).2⟩, fun _ _ _ n _ => n, fun b o e _ => ⟨o, (cutH_of e).2⟩, fun _ _ e => e, fun _ _ _ e => e, fun b ps e => ⟨#[], by rw [show mix Hy Hd b = some (.tbl ps) from e]; simp⟩⟩,
    ?_, fun x c h => (noc h).elim, gone J.free fL2, fun x c h => (noc h).elim, fun p hp => ?_, hok, J.len⟩, fL2, fun p hp => ⟨(O.2 p hp).1, ?_⟩⟩
  · obtain ⟨o, h1, h2⟩ := fm b m
    exact mix_nr (R.mm b m) fun o' z ex => by rw [h1] at z; cases z; exact flt_exp h2 ex
  · refine gone ?_ hd
    cases hy : Hy b with
    | none => rfl
    | some o =>
      exfalso
      cases h1 : H1 b with
      | some o1 => rw [old h1 hy] at hd; cases hd
      | none =>
        rcases R.sh b o h1 hy with z | ⟨z, ex⟩
        · rw [R.ol b hb z] at hy; cases hy
        · rw [exp_stays I2.base ex z] at hd; cases hd
  · rcases of_mix hm with hy | ⟨hy, hd, ex⟩
    · exact sh2 b o h1 hy
    · exact .inr ⟨hd, ex⟩
  · exact ext_le s2.heap.objs env.locals
  · refine ⟨(cutH_get (blo e)).trans (K.bs b o e).1, gone (J.bs b o e).2 (K.bs b o e).2⟩
  · show X.base.objs.size ≤ (cutH s2.heap env.locals).objs.size
    rw [szL]
    exact Nat.le_trans K.ok.bsz (Nat.le_trans K.ok.above (Nat.le_of_lt hxl))
  · exact funs_cut K.stack S.fr
  · exact gone (fs_none J b hb) (K.stkFree b hb)
  · obtain ⟨m, ⟨o, es, ep, ho, r⟩, hl⟩ := J.loc
    refine ⟨m, ⟨o, es, ep, ?_, r⟩, fun i x v e1 e2 e3 => ?_⟩
    · have ho' : sy.heap.get? env.locals = some o := ho
      rw [hL] at ho'; cases ho'
      exact fL
    · obtain ⟨u, r, l⟩ := hl i x v e1 e2 e3
      refine ⟨u, r, ?_⟩
      rcases l with l | ⟨_, c, e, _⟩
      · exact .inl l
      · exact (noc e).elim
  · have hp' : p ∈ ip := hp
    obtain ⟨j1, j2, j3, j4, j5⟩ := J.pin p (List.mem_append_right _ hp')
    obtain ⟨q1, q2⟩ := pinned (O.2 p hp').1 (O.2 p hp').2 j1 j5
    exact ⟨q1, gone j2 q2, j3, j4, j5⟩
  · obtain ⟨j1, j2, j3, j4, j5⟩ := J.pin p (List.mem_append_right _ hp)
    exact (pinned (O.2 p hp).1 (O.2 p hp).2 j1 j5).2
end
end G

namespace G
open PySem PySem.Spec PyProof.Rows L2 GenW
/-! ### a waking -/
def GoesR (G : GP) (gs : GenState) (m : Nat) (Z : Zk) (s : Shared) : Prop := match gs with
  | .fresh c => GRun G m Z s c (G.M.den c) [] s
  | .suspended k _ c _ fs _ => GRun G m Z s c (k (.send .none)) fs s
  | _ => False
def GKap (G : GP) (gs : GenState) : Nat → Zk → Shared → Prop
  | 0 => fun _ _ => False
  | m + 1 => GoesR G gs m
open Sem (wp) in
theorem resume_gr {G : GP} {gs : GenState} {g m : Nat} {Z : Zk} {s : Shared} {E : Value → Shared → Prop} {l : List Value} {α : Type} {k : GenResult → Sem α} {Q : α → Shared → Prop} (hg : s.gens[g]? = some gs) (hgo : GoesR G gs m Z (s.setGen g .running))
    (hR : ∀ x s₁, Dd s.heap s₁.heap → G.En m Z (s.setGen g .running) x s₁ → wpAny G.M G.A (k (End.ret x).result) Q E (s₁.setGen g .finished))
    (hY : ∀ v s₁ gs', gs'.bare = true → slp gs' = true → Dd s.heap s₁.heap → G.Yd m Z (s.setGen g .running) v s₁ (GKap G gs' m) → wpAny G.M G.A (k (.yielded v)) Q E (s₁.setGen g gs')) :
    wpAny G.M G.A (.resume g (.send .none) l k) Q E s := by
  intro Γ p hΓ
  rw [Sem.wp_resume]
  have hB : ∀ c, (Γ.wake c p).Woken G.A := fun c => hΓ.wake c p
  have fin : ∀ e₁ s₁, Dd s.heap s₁.heap → GEd G m (GNx G m) Z (s.setGen g .running) e₁ s₁ → wp G.M Γ (k e₁.result) (fun a _ s' => Q a s') (fun e _ s' => E e s') p (s₁.setGen g e₁.genState) := by
    intro e₁ s₁ dd he
    cases e₁ with
    | ret x => exact hR x s₁ dd he Γ p hΓ
    | susp v g₀ l₀ k₀ c₀ p₀ fs₀ =>
      obtain ⟨h1, h2, h3⟩ := he
      refine hY v s₁ _ (End.bare_of_quiet h1) rfl dd ?_ Γ p hΓ
      cases m with
      | zero => exact h3
      | succ m => exact h3
  have hqt : ∀ e₁ s₁, GEd G m (GNx G m) Z (s.setGen g .running) e₁ s₁ → e₁.quiet = true := by
    intro e₁ s₁ he
    cases e₁ with
    | ret x => rfl
    | susp v g₀ l₀ k₀ c₀ p₀ fs₀ => exact he.1
  cases gs with
  | fresh c =>
    obtain ⟨e₁, s₁, hr, he⟩ := gr_iff.mp hgo (Γ.wake c p) p rfl (hB c)
    have dd : Dd s.heap s₁.heap := by have q := runs_dd hr; exact q
    exact ⟨_, _, by unfold Wakes; rw [hg]; exact ⟨e₁, s₁, hr, hqt e₁ s₁ he, rfl, rfl⟩, fin e₁ s₁ dd he⟩
  | suspended k₀ l₀ c₀ p₀ fs₀ cl =>
    obtain ⟨e₁, s₁, hr, he⟩ := gr_iff.mp hgo (Γ.wake c₀ p) p₀ rfl (hB c₀)
    have dd : Dd s.heap s₁.heap := by have q := runs_dd hr; exact q
    exact ⟨_, _, by unfold Wakes; rw [hg]; exact ⟨e₁, s₁, hr, hqt e₁ s₁ he, rfl, rfl⟩, fin e₁ s₁ dd he⟩
  | running => exact hgo.elim
  | finished => exact hgo.elim
theorem next_gr {P : Program} {w : World} {A : Around} {E : Value → Shared → Prop} {s : Shared} {a : Addr} {g m : Nat} {gs : GenState} {Z : Zk} {Q : Option Value → Shared → Prop} {En : Nat → Zk → Shared → Result → Shared → Prop} {Yd : Nat → Zk → Shared → Value → Shared → (Zk → Shared → Prop) → Prop}
    (hh : A.handled = none) (hl : s.heap.NoLimit) (hroom : A.depth < recursionLimit) (hg : s.heap.IsGen a g) (hgs : s.gens[g]? = some gs) (hgo : GoesR ⟨model P w, A.in1, En, Yd⟩ gs m Z (s.setGen g .running))
    (hEn : ∀ r s₁, En m Z (s.setGen g .running) r s₁ → r = .ok (.ret .none) ∨ r = .ok .next)
    (hY : ∀ v s₁ gs', gs'.bare = true → slp gs' = true → Dd s.heap s₁.heap → Yd m Z (s.setGen g .running) v s₁ (GKap ⟨model P w, A.in1, En, Yd⟩ gs' m) → Q (some v) (s₁.setGen g gs'))
    (hP : ∀ r s₁, Dd s.heap s₁.heap → En m Z (s.setGen g .running) r s₁ → ∀ h', (∀ b o, s₁.heap.get? b = some o → h'.get? b = some o) → Q none { s₁.setGen g .finished with heap := h' }) :
    wpAny (model P w) A (pyNext (.ref a)) Q E s := by
  unfold pyNext
  refine wpAny_bind (wpAny_attempt (wpAny_callSpecial?_slot (name := Str.ofString "__next__") hg.typeIs slot_gen_next (wpAny_call_entry slot_gen_next hg.typeIs entry_gen_next ?_ (args_gen_next _))))
  show wpAny _ A.in1 (Builtin.Generator.genWake (.ref a) (.send .none)) _ _ s
  unfold Builtin.Generator.genWake
  refine wpAny_bind (wpAny_holding (wpAny_genNumber hg (wpAny_bind (wpAny_genState hgs ?_))))
  cases gs with
  | running => exact hgo.elim
  | finished => exact hgo.elim
  | _ =>
    refine wpAny_bind (wpAny_roomToWake hl hroom ?_)
    show wpAny _ A.in1 (.resume g (.send .none) [] _) _ _ s
    refine resume_gr (G := ⟨model P w, A.in1, En, Yd⟩) hgs hgo (fun x s₁ dd hx => ?_) (fun v s₁ gs' hb hs dd hv => ?_)
    · have hres : End.result (.ret x) = .returned .none := by
        rcases hEn x s₁ hx with hr | hr <;> rw [hr] <;> rfl
      first | rw [hres] | simp only [hres]
      show wpAny _ A.in1 (newExc (.type "StopIteration") [] >>= _) _ _ _
      refine wpAny_bind ?_
      simp only [newExc, newTuple]
      refine wpAny_bind (wpAny_newObj_type ?_ (by size_fits))
      refine wpAny_bind (m := firstArgMember _ _) (wpAny_of_eq (a := Value.none) (by first | rfl | (simp only [firstArgMember]; rfl)) ?_)
      refine wpAny_newObj_type ?_ (by size_fits)
      simp only [raiseNew]
      refine wpAny_bind (wpAny_bind (wpAny_handled ?_))
      first | rw [show A.in1.handled = none from hh] | rw [hh]
      refine wpAny_throw ?_
      refine wpAny_bind (wpAny_isInstance (T := "StopIteration") (b := true) ⟨_, Heap.get?_push_size _ rfl, rfl⟩ isSubtype_stop ?_)
      exact wpAny_pure (hP x s₁ dd hx _ fun b o hb => Heap.get?_push_of_some _ (Heap.get?_push_of_some _ hb))
    · exact wpAny_pure ⟨v, rfl, wpAny_pure (hY v s₁ gs' hb hs dd hv)⟩
end G

namespace G
open PySem PySem.Spec PyProof.Rows L2 GenW
/-! ### a generator def's promise -/
abbrev SpY := List V → Hp → Nat → (Nat → V → Hp → Prop) → Prop
abbrev GG (P : Program) (w : World) (K : PySem.W.Frag) (mg : Str → Option Value) (base : Heap) (outer : List Env) (N : List Str) (env : Env) (Aw : Around) (q n : Nat) (it : Nat → V → Hp → Prop) (Hs : Hp) (g0 : Addr × Obj) : GF := ⟨gX P w K mg base outer N env Aw, q, n, it, Hs, g0⟩
def st0 (N : List Str) (vs : List V) (q : Nat) : L2.St := (start N vs).set q (some (.int 0))
/-- the end of its body: all is handed out -/
def dEnd (q n : Nat) (Hs : Hp) : Ends := { nx := fun σ' H' => Chg [] Hs H' ∧ σ'[q]? = some (some (.int (n : Int))), rt := fun _ _ => False }
/-- it has been called -/
structure Born (P : Program) (w : World) (K : PySem.W.Frag) (mg : Str → Option Value) (base : Heap) (k : Nat) (N : List Str) (q : Nat) (sp : SpY) (A : Around) (outer : List Env) (s : Shared) (H : Hp) (vs : List V) (u : Value) (s' : Shared) : Prop where
  ex : ∃ (qual : Str) (scope : Scope) (f : Addr) (cdv : Value) (body : List Stmt) (a : Addr) (g : Nat) (go : Obj) (E : XK), u = .ref a ∧ s.heap.objs.size < a ∧ s'.heap.get? a = some go ∧ (∀ h : Heap, h.get? a = some go → h.IsGen a g) ∧ (∀ v, go.data ≠ .cell v) ∧
    s'.gens[g]? = some (.fresh (.func body (envOfC qual scope s.heap.objs.size f cdv))) ∧ s'.os = s.os ∧ AllBare s'.gens ∧ (∀ b o, s.heap.get? b = some o → s'.heap.get? b = some o) ∧ (envOfC qual scope s.heap.objs.size f cdv).cells = [] ∧
    (∀ x, N[q]? = some x → ¬ Vis scope x) ∧ q < N.length ∧ Inv (gcxOf P w K mg base N qual scope f cdv A outer s H E []) [] (start N vs) H s' ∧
    ∀ (Aw : Around) (n : Nat) (it : Nat → V → Hp → Prop) (Hs : Hp), Room k (Aw.deeper (envOfC qual scope s.heap.objs.size f cdv)) → sp vs Hs n it →
      ∃ t, (∀ g0, GSs (GG P w K mg base outer N (envOfC qual scope s.heap.objs.size f cdv) Aw q n it Hs g0) body t) ∧ t (dEnd q n Hs) (st0 N vs q) Hs
structure GFnR (P : Program) (w : World) (K : PySem.W.Frag) (mg : Str → Option Value) (base : Heap) (k : Nat) (f : Addr) (fd : FuncData) (ps N : List Str) (q : Nat) (sp : SpY) : Prop where
  run : ∀ (A : Around) (outer : List Env) (s : Shared) (H : Hp) (args : Args) (us : List Value) (vs : List V), Room k A → Env0 P w K mg base A outer s H → BindsTo s fd args (ps.zip us) → Vals vs us → vs.length = ps.length →
    codeAny (model P w) A (.call (.ref f) args) (fun r s' => ∃ u, r = .ok (.ret u) ∧ Born P w K mg base k N q sp A outer s H vs u s') s
theorem gfn_by {P : Program} {w : World} {K : PySem.W.Frag} {mg : Str → Option Value} {base : Heap} {k q : Nat} {f : Addr} {name qual : Str} {params : Arguments} {body : List Stmt} {scope : Scope} {dV kV doc pm cdv ct oc : Value} {an od : Option Addr}
    {osl : Array (Option Value)} {N ps : List Str} {sp : SpY} (lk : K.lookup f = some ⟨oc, od, .func (PySem.W.fnOf name qual params body scope dV kV doc pm an cdv ct), osl⟩) (hcd : PySem.W.codeIn K cdv qual = true) (S : GScope N ps scope)
    (hcells : ∀ L : Addr, (envOfC qual scope L f cdv).cells = []) (hgh : ∀ x, N[q]? = some x → ¬ Vis scope x) (hq : q < N.length)
    (hbody : ∀ (outer : List Env) (L : Addr) (Aw : Around) (n : Nat) (it : Nat → V → Hp → Prop) (Hs : Hp) (vs : List V), Room k (Aw.deeper (envOfC qual scope L f cdv)) → sp vs Hs n it →
      ∃ t, (∀ g0, GSs (GG P w K mg base outer N (envOfC qual scope L f cdv) Aw q n it Hs g0) body t) ∧ t (dEnd q n Hs) (st0 N vs q) Hs) :
    GFnR P w K mg base k f (PySem.W.fnOf name qual params body scope dV kV doc pm an cdv ct) ps N q sp := by
  refine ⟨fun A outer s H args us vs hr e0 hb r hl => ?_⟩
  have KX : K.In s.heap := e0.mod.kin.keeps fun b o e => (e0.bs b o e).1
  have lim : s.heap.NoLimit := e0.mod.nolimit.keeps fun b o e => (e0.bs b o e).1
  have hkind : ∀ y ∈ ps.zip us, scope.names.lookup y.1 = some .local ∨ (scope.names.lookup y.1 = some .cell ∧ ((cellsFrom (s.heap.objs.size + 1) scope.names []).lookup y.1).isSome = true) := fun ⟨x, v⟩ hy => by
    rcases S.par x (List.of_mem_zip hy).1 with z | z
    · exact .inl z
    · exact .inr ⟨z, PySem.W.cellsFrom_some _ _ _ (.inl z)⟩
  refine codeAny_call_generator hr.depth (KX _ _ lk) rfl S.co S.gen rfl (PySem.W.codeRec_of KX hcd) (hb _ _ _ _ ?_)
  refine wpAny_newFunctionEnv_cells S.kind hkind fun env he s1 x => ?_
  subst he
  have kp1 : ∀ b o, s.heap.get? b = some o → s1.heap.get? b = some o := x.toInCall.keep
  have lim1 : s1.heap.NoLimit := lim.keeps kp1
  refine ⟨lim1, _, rfl, ?_⟩
  obtain ⟨h1, tk, es1, _⟩ := x.done
  have lt1 : s.heap.objs.size < s1.heap.objs.size := x.toInCall.ns.lt
  have I1 : Inv (gcxOf P w K mg base N qual scope f cdv A outer s H (fun _ _ _ => False) []) [] (start N vs) H s1 := inv_startG S hr.hd e0 hl r x
  have grow : ∀ b o, s1.heap.get? b = some o → ∀ go : Obj, (s1.heap.push go).get? b = some o := fun b o e go => Heap.get?_push_of_some _ e
  refine ⟨qual, scope, f, cdv, body, s1.heap.objs.size, s1.gens.size, _, (fun _ _ _ => False), rfl, lt1, Heap.get?_push_size _ rfl, fun h e => ⟨_, _, _, e, rfl, rfl, rfl⟩, fun v z => (by cases z), Array.getElem?_push_size .., (by rw [es1]), ?_, fun b o e => grow b o (kp1 b o e) _, hcells _, hgh, hq, ?_, fun Aw n it Hs hr2 hsp => hbody outer _ Aw n it Hs vs hr2 hsp⟩
  · exact AllBare.push I1.bare rfl
  · have z := (I1.kept (t' := s1.toks + 1 + 1) fun b u e => grow b u e { cls := .type "generator", data := .fields #[.int s1.gens.size 0, .str name s1.toks, .str qual (s1.toks + 1)] })
    exact inv_gens z (AllBare.push I1.bare rfl)
end G

namespace G
open PySem PySem.Spec PyProof.Rows L2 GenW
section
variable {X : Cx} {N : List Str} {env : Env} {Aw : Around} {q n : Nat} {it : Nat → V → Hp → Prop} {H1 : Hp} {M : List Addr} {pins : List (Addr × Obj)} {σ : L2.St} {s s' : Shared} {vs : List V}
/-- ahead of the first turn -/
theorem born {qual : Str} {scope : Scope} {f : Addr} {cdv : Value} {a : Addr} {go : Obj} {E : XK} (I : Inv X pins σ H1 s) (cX : X.env.cells = []) (hr : X.A.handled = none) (hA : Aw.frames = X.A.frames) (hA2 : Aw.handled = X.A.handled)
    (ha : s.heap.objs.size < a) (hgo : s'.heap.get? a = some go) (hnc : ∀ v, go.data ≠ .cell v) (hos : s'.os = s.os) (hb : AllBare s'.gens) (hk : ∀ b o, s.heap.get? b = some o → s'.heap.get? b = some o)
    (hcells : (envOfC qual scope s.heap.objs.size f cdv).cells = []) (hgh : ∀ x, N[q]? = some x → ¬ Vis scope x) (J : Inv (gcxOf X.prog X.w X.K X.mg X.base N qual scope f cdv X.A X.stack s H1 E []) [] (start N vs) H1 s') (fm : ∀ b ∈ M, ∃ o, H1 b = some o ∧ Flt o) :
    Sd X (envOfC qual scope s.heap.objs.size f cdv) H1 M pins ∧ Inv X pins σ H1 s' ∧ Rel (envOfC qual scope s.heap.objs.size f cdv) H1 M (hideM H1 M) H1 ∧ Own (envOfC qual scope s.heap.objs.size f cdv) H1 [(a, go)] ∧
      Inv ((FF X N (envOfC qual scope s.heap.objs.size f cdv) Aw q n it (hideM H1 M) (a, go)).at s' (hideM H1 M, [])) [(a, go)] (st0 N vs q) (hideM H1 M) s' := by
  have S : Sd X (envOfC qual scope s.heap.objs.size f cdv) H1 M pins := ⟨cX, hcells, fun b o e => I.hok.lt e, frs_lt I, I.lt, fun p hp => Heap.lt_size (I.pin p hp).1⟩
  have K : Inv X pins σ H1 s' := I.call' (ch := []) hos (Un.kept hk) (I.hok.kept hk) hb fun b z => by cases z
  have noc : ∀ {x c}, (envOfC qual scope s.heap.objs.size f cdv).cells.lookup x = some c → False := fun {x c} h => by rw [hcells] at h; cases h
  have hok : HOk X.prog X.w (hideM H1 M) s'.heap := fun b o h => by
    obtain ⟨m, e⟩ := hide_some h
    have nm : ∀ {c : Addr} {u : HO}, H1 c = some u → ¬ Flt u → c ∉ M := fun {c u} e nf z => by
      obtain ⟨o, e2, fl⟩ := fm c z
      rw [e] at e2; cases e2
      exact nf fl
    refine obj_mv (K.hok b o e) (fun u z => z) (fun dx z => ⟨fun u y => y, ?_⟩) fun c xs y => ?_
    · have own := obj_own (K.hok b o e) z
      rw [hide_out (nm own fun z => z)]; exact own
    · rw [hide_out (nm y fun z => z)]; exact y
  have sz : s.heap.objs.size ≤ s'.heap.objs.size := Nat.le_of_lt J.lt
  have szL : (cutH s'.heap s.heap.objs.size).objs.size = s.heap.objs.size := cutH_size sz
  have blo : ∀ {b : Addr} {o : Obj}, X.base.get? b = some o → b < s.heap.objs.size := fun e => Nat.lt_trans (base_lt K e) I.lt
  have hn : ∀ {b : Addr}, H1 b = none → hideM H1 M b = none := fun {b} e => by
    by_cases m : b ∈ M
    · exact hide_in m
    · rw [hide_out m]; exact e
  have fr0 : ∀ b ∈ frs X.stack, hideM H1 M b = none := fun b hb => hn (I.stkFree b hb)
  have ha1 : H1 a = none := I.hok.fresh (Nat.le_of_lt ha)
  refine ⟨S, K, ⟨fun b m => hide_in m, Chg.refl _, Chg.refl _, fun b _ e => hn e, fun b o h1 e => ?_, fm, fun b m => ?_⟩, ⟨I.hok.fresh (Nat.le_refl _), fun p hp => ?_⟩,
    ⟨⟨J.ok.mod, J.ok.kind, J.ok.glob, J.ok.blt, ?_, J.ok.inj, J.ok.has, fun x c _ h => (noc h).elim, fun _ => ?_, ?_, .inr ⟨rfl, rfl⟩, fun b z => (by cases z), fun b o e => ?_, ?_, fun b o _ => List.not_mem_nil, fun b z => (by cases z), ?_, fr0⟩,
      rfl, hb, ⟨fun b o e _ _ _ => (cutH_of e).2, fun b o e _ _ _ => ⟨o.slots, (cutH_of e).2⟩, fun _ _ _ n _ => n, fun b o e _ => ⟨o, (cutH_of e).2⟩, fun _ _ e => e, fun _ _ _ e => e, fun b ps e => ⟨#[], by rw [show hideM H1 M b = some (.tbl ps) from e]; simp⟩⟩,
      ?_, fun x c h => (noc h).elim, hn (I.hok.fresh (Nat.le_refl _)), fun x c h => (noc h).elim, fun p hp => ?_, hok, ?_⟩⟩
  · rw [(hide_some e).2] at h1; cases h1
  · obtain ⟨o, e, _⟩ := fm b m
    exact ⟨o, e⟩
  · rw [List.mem_singleton.mp hp]
    exact ⟨Nat.le_of_lt ha, ha1⟩
  · exact ext_le s'.heap.objs s.heap.objs.size
  · show (Aw.deeper _).handled = none
    exact hA2.trans hr
  · exact Around.frames_deeper (hA.trans I.ok.frames)
  · exact ⟨(cutH_get (blo e)).trans (K.bs b o e).1, hn (K.bs b o e).2⟩
  · show X.base.objs.size ≤ (cutH s'.heap s.heap.objs.size).objs.size
    rw [szL]
    exact Nat.le_trans I.ok.bsz (Nat.le_trans I.ok.above (Nat.le_of_lt I.lt))
  · exact funs_cut K.stack S.fr
  · obtain ⟨m, hm, hl⟩ := J.loc
    refine ⟨m, hm, fun i x v e1 e2 e3 => ?_⟩
    have hi : i ≠ q := fun z => by subst z; exact hgh x e1 e3
    have e2' : (start N vs)[i]? = some (some v) := by
      have z : ((start N vs).set q (some (.int 0)))[i]? = some (some v) := e2
      rw [List.getElem?_set_ne (Ne.symm hi)] at z
      exact z
    exact hl i x v e1 e2' e3
  · rw [List.mem_singleton.mp (show p ∈ [(a, go)] from hp)]
    refine ⟨hgo, hn ha1, Nat.ne_of_gt ha, fun z => ?_, hnc⟩
    exact absurd (frs_lt I a z) (Nat.not_lt_of_le (Nat.le_of_lt ha))
  · show ((start N vs).set q (some (.int 0))).length = N.length
    rw [List.length_set]; exact J.len
/-- a loop over what the generator hands out, told of the caller's heap alone -/
def LoopY (M : List Addr) (n : Nat) (it : Nat → V → Hp → Prop) (gt : TG) (tb : TS) (D : Ends) (σ : L2.St) (H1 : Hp) : Prop := ∃ W : Nat → L2.St → Hp → Prop, W 0 σ H1 ∧ ∀ i σ' H', W i σ' H' →
  Chg M H1 H' ∧ (∀ b ∈ M, ∃ o, H' b = some o ∧ Flt o) ∧ ((i = n ∧ ∀ H2, Chg [] H' H2 → D.nx σ' H2) ∨ (i < n ∧ ∀ x H2, Chg [] H' H2 → it i x H2 → gt x σ' H2 fun σ3 H3 => tb { D with nx := W (i + 1), ct := W (i + 1), bk := D.nx } σ3 H3))
/-- an item stays what it is where the old things and what is handed over stand -/
def ItOk (H1 : Hp) (M : List Addr) (it : Nat → V → Hp → Prop) : Prop := ∀ i x Hy H', it i x Hy → (∀ b o, b ∉ M → H1 b = some o → H' b = some o) → (∀ b o, Hy b = some o → Exp o → H' b = some o) → it i x H'
def tForY (sp : SpY) (ta : TA) (gt : TG) (tb : TS) : TS := fun D σ H => ta σ H fun vs H1 => ∃ (M : List Addr) (n : Nat) (it : Nat → V → Hp → Prop), (∀ b ∈ M, ∃ o, H1 b = some o ∧ Flt o) ∧ sp vs (hideM H1 M) n it ∧ ItOk H1 M it ∧ LoopY M n it gt tb D σ H1
theorem allB {s : Shared} {g : Nat} {x : GenState} (h : AllBare s.gens) (hx : x.bare = true) : AllBare (s.setGen g x).gens := allBare_setGen h hx
theorem forY_loop {k : Nat} {sp : SpY} {u : Value} {gt : TG} {tb : TS} {D : Ends} {tg : Expr} {body : List Stmt} (hx : X.xe = fun _ _ => False) (hc : X.calm = true) (cX : X.env.cells = []) (hr : Room (k + 2) X.A) (I : Inv X pins σ H1 s)
    (B : Born X.prog X.w X.K X.mg X.base k N q sp X.A X.stack s H1 vs u s') (hg : ∀ s H, PG (reb X s H) tg gt) (hb : ∀ s H, PSs (reb X s H) body tb)
    (fm : ∀ b ∈ M, ∃ o, H1 b = some o ∧ Flt o) (hsp : sp vs (hideM H1 M) n it) (hit : ItOk H1 M it) (L : LoopY M n it gt tb D σ H1) :
    wpAny (model X.prog X.w) X.A (pyIter u) (fun itv s2 => codeAny (model X.prog X.w) X.A (.forLoop tg itv body [] X.env) (fun r s' => match r with | .ok f => SP X pins D f s' | .error e => cameBackBy (model X.prog X.w) X.A X.env (fun _ _ => False) e s') s2) (fun _ _ => False) s' := by
  obtain ⟨qual, scope, f, cdv, bodyG, a, g, go, E, rfl, ha, hgo, hgen, hnc, hgs, hos, hba, hk, hcells, hgh, hqN, J0, hbd⟩ := B.ex
  have hhd : X.A.handled = none := I.ok.hd hc
  obtain ⟨S, K0, R0, O0, J1⟩ := born (N := N) (Aw := X.A.in1) (q := q) (n := n) (it := it) (vs := vs) I cX hhd rfl rfl ha hgo hnc hos hba hk hcells hgh J0 fm
  refine wpAny_pyIter_gen (hgen _ hgo) ?_
  have rG : Room k (X.A.in1.deeper (envOfC qual scope s.heap.objs.size f cdv)) := (hr.in1).deeper _
  obtain ⟨t, ht, hq⟩ := hbd X.A.in1 n it (hideM H1 M) rG hsp
  obtain ⟨W, w0, turn⟩ := L
  -- the first turn
  have first : ∀ (s2 : Shared) (P2 : List (Addr × Obj)), Inv ((FF X N (envOfC qual scope s.heap.objs.size f cdv) X.A.in1 q n it (hideM H1 M) (a, go)).at s2 (hideM H1 M, P2)) [(a, go)] (st0 N vs q) (hideM H1 M) s2 → IpOk (FF X N (envOfC qual scope s.heap.objs.size f cdv) X.A.in1 q n it (hideM H1 M) (a, go)) (hideM H1 M, P2) s2 [(a, go)] →
      GoesR ((FF X N (envOfC qual scope s.heap.objs.size f cdv) X.A.in1 q n it (hideM H1 M) (a, go)).gp X.A.in1 (a, go)) (.fresh (.func bodyG (envOfC qual scope s.heap.objs.size f cdv))) n (hideM H1 M, P2) s2 := fun s2 P2 I2 ho => by
    show GRun _ _ _ _ _ (.point [] fun _ => ((execs bodyG (envOfC qual scope s.heap.objs.size f cdv)).onRaise (leaving (envOfC qual scope s.heap.objs.size f cdv))) >>= _) [] s2
    refine gr_point ?_
    rw [Sem.onRaise_eq_wrap, Sem.bind_eq_wrap', Sem.wrap_wrap]
    have hqs : q < (start N vs).length := by
      have e : (start N vs).length = N.length := J0.len
      rw [e]; exact hqN
    refine (ht (a, go)).run X.A.in1 (a, go) _ [] _ _ _ _ n _ s2 s2 (st0 N vs q) (hideM H1 M) [(a, go)] _ ⟨over_func, rfl, rfl, rfl⟩ (fun m Z so s3 fl ho3 h3 => ?_) ho I2 ⟨Nat.le_refl _, ?_⟩ hq
    · cases fl with
      | next =>
        obtain ⟨σ', H', I3, c3, d3⟩ := h3
        refine gr_end (.ok (.ret .none)) ⟨.inl rfl, ?_, σ', H', [(a, go)], d3.1, List.mem_singleton.mpr rfl, I3, ho3⟩
        have e1 := c3.2
        rw [show σ'[(FF X N (envOfC qual scope s.heap.objs.size f cdv) X.A.in1 q n it (hideM H1 M) (a, go)).q]? = some (some (.int (n : Int))) from d3.2] at e1
        have e2 := Int.ofNat.inj (V.int.inj (Option.some.inj (Option.some.inj e1)))
        have e3 : m ≤ n := c3.1
        have e4 : n = n - m := e2
        omega
      | brk => obtain ⟨_, _, _, _, z⟩ := h3; exact z.elim
      | cont => obtain ⟨_, _, _, _, z⟩ := h3; exact z.elim
      | ret v => exact h3.elim
    · show ((start N vs).set q (some (.int 0)))[q]? = some (some (.int ((n - n : Nat) : Int)))
      rw [List.getElem?_set_self hqs, Nat.sub_self]; rfl
  clear hq ht hbd J0
  revert S R0 O0 J1 first
  generalize envOfC qual scope s.heap.objs.size f cdv = env at *
  intro S R0 O0 J1 first
  have roomN : X.A.depth < recursionLimit := hr.depth
  let RD : Nat → Shared → Prop := fun m s => ∃ (i : Nat) (σ' : L2.St) (Hc Hg : Hp) (gs : GenState) (ip : List (Addr × Obj)) (σg : L2.St), m = n - i ∧ i ≤ n ∧ W i σ' Hc ∧ s.gens[g]? = some gs ∧ Inv X pins σ' Hc s ∧ Rel env H1 M Hg Hc ∧ Own env Hc ip ∧
    Inv ((FF X N env X.A.in1 q n it (hideM H1 M) (a, go)).at s (Hg, [])) ip σg Hg s ∧ (a, go) ∈ ip ∧
    ∀ (s2 : Shared) (P2 : List (Addr × Obj)), Inv ((FF X N env X.A.in1 q n it (hideM H1 M) (a, go)).at s2 (Hg, P2)) ip σg Hg s2 → IpOk (FF X N env X.A.in1 q n it (hideM H1 M) (a, go)) (Hg, P2) s2 ip → GoesR ((FF X N env X.A.in1 q n it (hideM H1 M) (a, go)).gp X.A.in1 (a, go)) gs (n - i) (Hg, P2) s2
  refine codeAny_forLoop_any RD (fun m s3 h3 => ?_) n ⟨0, σ, H1, hideM H1 M, _, [(a, go)], st0 N vs q, rfl, Nat.zero_le _, w0, hgs, K0, R0, O0, J1, List.mem_singleton.mpr rfl, first⟩
  obtain ⟨i, σ', Hc, Hg, gs, ip, σg, rfl, hin, w, hgs3, I3, R3, O3, J3, hgp, goes⟩ := h3
  obtain ⟨wc, wf, step⟩ := turn i σ' Hc w
  have hIG : s3.heap.IsGen a g := hgen _ (J3.pin (a, go) (List.mem_append_right _ hgp)).1
  have hgl : g < s3.gens.size := (Array.getElem?_eq_some_iff.mp hgs3).1
  have hbr : AllBare (s3.setGen g .running).gens := allB I3.bare rfl
  obtain ⟨Jw, hoW⟩ := wake_inv (G := (s3.setGen g .running).gens) hgp S I3 J3 hbr O3
  have goW := goes _ _ Jw hoW
  refine wpAny_gsz (n := g + 1) hgl (next_gr (Z := (Hg, toStand s3.heap env Hg ip)) hhd I3.nolimit roomN hIG hgs3 goW (fun r s4 h4 => h4.1) (fun v s4 gs' hbare hslp dd h4 => ?_) fun r s4 dd h4 h' hk' => ?_)
  · intro hsz
    obtain ⟨x, σy, Hy, ip', hm0, hmn, rv, hity, hcy, Jy, hoY, kap⟩ := h4
    have hi : i < n := by have : 0 < n - i := hm0; omega
    have hity' : it i x Hy := by
      have z : it (n - (n - i)) x Hy := hity
      rw [show n - (n - i) = i by omega] at z; exact z
    obtain ⟨Iy, Ry, four, Oy⟩ := taken (so := s3.setGen g .running) S I3 R3 O3 rfl rfl Jy hcy hoY dd
    have hsz4 : g < s4.gens.size := by
      have z : (s4.setGen g gs').gens.size = s4.gens.size := setGen_size s4 g gs'
      have hsz' : g + 1 ≤ (s4.setGen g gs').gens.size := hsz
      omega
    have b5 : AllBare (s4.setGen g gs').gens := allB Iy.bare hbare
    have I5 : Inv X pins σ' (mix Hc Hy) (s4.setGen g gs') := inv_gens Iy b5
    have I5p := asleep_pin (sy := s4) (Z := (Hg, [])) S I5 rfl
    have I5r := inv_reb I5p cX
    -- the generator sleeps
    rcases step with ⟨e, _⟩ | ⟨_, step⟩
    · omega
    have stp := step x (mix Hc Hy) chg_mix (hit i x Hy _ hity' (fun b o m h1 => mix_l (R3.old h1 m).2) four)
    obtain ⟨og, nm, qn, hog, hoc, hod, _⟩ := hgen s4.heap (Jy.pin (a, go) (List.mem_append_right _ hoY.1.2)).1
    refine go_of (s := s4.setGen g gs') hog hoc hod (by decide) ?_
    have never : ∀ e (s : Shared), ¬ X.xe e s := fun e s z => by rw [hx] at z; exact z
    have nv : ∀ {D0 : Nat → Option GenState} {e : Value} {s : Shared}, ¬ Aft D0 X.xe e s := fun ⟨_, _, z⟩ => never _ _ z
    have hush0 : Inv (reb X (s4.setGen g gs') (mix Hc Hy)) (pins ++ asleep s4.heap env (mix Hc Hy)) σ' (mix Hc Hy) (hush (s4.setGen g gs')) := inv_gens I5r (hush_bare b5)
    have hD0 : sleepers (s4.setGen g gs') g = some gs' := by
      unfold sleepers
      rw [setGen_at hsz4]
      exact if_pos hslp
    refine wpAny_mono (any_sim (s := hush (s4.setGen g gs')) (sim_hush (s4.setGen g gs')) ((hg (s4.setGen g gs') (mix Hc Hy)).run _ _ _ _ x v _ hush0 rv stp)) (fun _ s6 h6 => ?_) fun e s z => (nv z).elim
    obtain ⟨G6, sim6, σ6, H6, I6, q6⟩ := h6
    refine wpAny_mono (any_sim (s := { s6 with gens := G6 }) sim6 ((hb (s4.setGen g gs') (mix Hc Hy)).run _ _ _ _ _ I6 q6)) (fun f s7 h7 => ?_) fun e s z => (nv z).elim
    obtain ⟨G7, sim7, h7⟩ := h7
    have back : ∀ {σ7 : L2.St} {H7 : Hp}, Inv (reb X (s4.setGen g gs') (mix Hc Hy)) (pins ++ asleep s4.heap env (mix Hc Hy)) σ7 H7 { s7 with gens := G7 } → Inv (reb X (s4.setGen g gs') (mix Hc Hy)) (pins ++ asleep s4.heap env (mix Hc Hy)) σ7 H7 s7 := fun {σ7 H7} I7 => inv_gens (s := { s7 with gens := G7 }) I7 (sim_bare sim7 I7.bare)
    have out : ∀ {σ7 : L2.St} {H7 : Hp}, Inv (reb X (s4.setGen g gs') (mix Hc Hy)) (pins ++ asleep s4.heap env (mix Hc Hy)) σ7 H7 { s7 with gens := G7 } → Inv X pins σ7 H7 s7 := fun {σ7 H7} I7 => inv_unreb I5 cX (back I7).unpinned
    have again : ∀ {σ7 : L2.St} {H7 : Hp}, Inv (reb X (s4.setGen g gs') (mix Hc Hy)) (pins ++ asleep s4.heap env (mix Hc Hy)) σ7 H7 { s7 with gens := G7 } → W (i + 1) σ7 H7 → ∃ m, m < n - i ∧ RD m s7 := fun {σ7 H7} I7 w7 => by
      obtain ⟨wc7, wf7, _⟩ := turn (i + 1) σ7 H7 w7
      obtain ⟨z1, z2, z3, z4⟩ := slept (sy := s4) S I5 rfl Ry Oy Jy (back I7) wc7 wf7
      refine ⟨n - (i + 1), by omega, i + 1, σ7, H7, mix Hy H7, gs', ip', σy, rfl, hi, w7, (sim7.old g gs' hD0).1, z1, z2, z4, z3, hoY.1.2, fun s2 P2 I2 ho2 => ?_⟩
      have k2 := kap s2 P2 (mix Hy H7) chg_mix I2 ho2
      obtain ⟨j, hj⟩ : ∃ j, n - i = j + 1 := ⟨n - i - 1, by omega⟩
      rw [hj] at k2
      rw [show n - (i + 1) = j by omega]
      exact k2
    cases f with
    | next => obtain ⟨σ7, H7, I7, n7⟩ := h7; exact again I7 n7
    | cont => obtain ⟨σ7, H7, I7, n7⟩ := h7; exact again I7 n7
    | brk => obtain ⟨σ7, H7, I7, q7⟩ := h7; exact ⟨σ7, H7, out I7, q7⟩
    | ret u => obtain ⟨x7, σ7, H7, I7, r7, q7⟩ := h7; exact ⟨x7, σ7, H7, out I7, r7, q7⟩
  · intro hsz
    obtain ⟨_, hm0, σe, He, ipe, hce, hge, Je, hoE⟩ := h4
    obtain ⟨Ie, _, _, _⟩ := taken (so := s3.setGen g .running) S I3 R3 O3 rfl rfl Je hce hoE dd
    rcases step with ⟨e, hD⟩ | ⟨e, _⟩
    · refine wpAny_execs_nil ?_
      refine ⟨σ', mix Hc He, ?_, hD _ chg_mix⟩
      have z : Inv X pins σ' (mix Hc He) (s4.setGen g .finished) := inv_gens Ie (allB Ie.bare rfl)
      exact z.kept hk'
    · omega
end
end G

namespace G
open PySem PySem.Spec PyProof.Rows L2 GenW
/-- a generator def may be called by its name and keeps its promise -/
structure CalY (P : Program) (w : World) (K : PySem.W.Frag) (mg : Str → Option Value) (x : Str) (ps N : List Str) (q k : Nat) (sp : SpY) : Prop where
  ex : ∃ f fd, mg x = some (.ref f) ∧ PySem.W.keepIn K (.ref f) = true ∧ (∀ (s : Shared) (us : List Value), us.length = ps.length → BindsTo s fd ⟨us, []⟩ (ps.zip us)) ∧ ∀ base : Heap, GFnR P w K mg base k f fd ps N q sp
theorem ps_forY {X : Cx} {x : Str} {ps N : List Str} {q j k : Nat} {sp : SpY} {tg e : Expr} {es : List Expr} {body : List Stmt} {ta : TA} {gt : TG} {tb : TS} {p pos' pos : Pos} (C : CalY X.prog X.w X.K X.mg x ps N q j sp) (hr : Room k X.A) (ha : PA X (e :: es) ta) (hl : ∀ vs H n it, sp vs H n it → vs.length = ps.length)
    (hg : ∀ s H, PG (reb X s H) tg gt) (hb : ∀ s H, PSs (reb X s H) body tb) (hx : X.xe = fun _ _ => False := by rfl) (hc : X.calm = true := by rfl) (cX : X.env.cells = [] := by rfl) (hj : j + 2 ≤ k := by decide) (hgl : Gl X x := by rfl)
    (hd : (x == ("__debug__" : Str)) = false := by decide) (he : starEach (e :: es) X.env = (false, eval e X.env) :: starEach es X.env := by rfl) (hpl : (backTo pos' (starEach es X.env)).any (·.1) = false := by rfl)
    (hs : ∀ v, foldedSetIterable (.Call (.Name x p) (e :: es) [] pos') X.env v = pure v := by intro _; rfl) :
    PS X (.For tg (.Call (.Name x p) (e :: es) [] pos') body [] pos) (tForY sp ta gt tb) := by
  obtain ⟨f, fd, hm, hk, hb2, GF⟩ := C.ex
  refine ⟨fun pins s σ H D I h => wpAny_For ?_ hs⟩
  refine wpAny_Call_Name_kw (ld_glob I hgl hm ?_ hd)
  refine PySem.W.callWith_K (h₀ := X.base) I.ok.mod.kin hk (thn (ha.run pos' pins s σ H _ I h) fun us s1 ⟨vs, H1, I1, r, M, n, it, q1, q2, q3, q4⟩ => ⟨I1.kIn, ?_⟩) he hpl
  have hvl : vs.length = ps.length := hl _ _ _ _ q2
  refine wpAny_call (codeAny_mono ((GF X.base).run X.A X.stack s1 H1 ⟨us, []⟩ us vs (hr.mono (Nat.le_trans (Nat.le_add_right _ _) hj)) I1.env0 (hb2 s1 us (by rw [← r.length]; exact hvl)) r hvl) fun rr s2 hq => ?_)
  obtain ⟨u, rfl, B⟩ := hq
  have z := forY_loop hx hc cX (hr.mono hj) I1 B hg hb q1 q2 q3 q4 (body := body)
  rw [← hx] at z
  exact z
/-! ### the generator def itself -/
theorem calY_of {P : Program} {w : World} {K : PySem.W.Frag} {mg : Str → Option Value} {x : Str} {st : Stmt} {ps N : List Str} {q k : Nat} {sp : SpY} (D : Dfn K mg x st) (S : GScope N ps (defScope st))
    (hbnd : ∀ (kV doc pm : Value) (an : Option Addr) (cdv ct : Value) (us : List Value), us.length = ps.length → bindArgs (PySem.W.fnOf x x (defArgs st) (defBody st) (defScope st) .none kV doc pm an cdv ct) ⟨us, []⟩ = pure (ps.zip us))
    (hcells : ∀ (L f : Addr) (cdv : Value), (envOfC x (defScope st) L f cdv).cells = []) (hgh : ∀ y, N[q]? = some y → ¬ Vis (defScope st) y) (hq : q < N.length)
    (hbody : ∀ (base : Heap) (outer : List Env) (f : Addr) (cdv : Value) (L : Addr) (Aw : Around) (n : Nat) (it : Nat → V → Hp → Prop) (Hs : Hp) (vs : List V), Room k (Aw.deeper (envOfC x (defScope st) L f cdv)) → sp vs Hs n it →
      ∃ t, (∀ g0, GSs (GG P w K mg base outer N (envOfC x (defScope st) L f cdv) Aw q n it Hs g0) (defBody st) t) ∧ t (dEnd q n Hs) (st0 N vs q) Hs) :
    CalY P w K mg x ps N q (k + 1) sp := by
  obtain ⟨f, fd, F, g⟩ := D.ex
  obtain ⟨oc, od, kV, doc, pm, an, cdv, ct, osl, rfl, lk, hcd⟩ := id F.ex
  refine ⟨f, _, g, F.kp, bindsF F hbnd, fun base => ?_⟩
  have z := gfn_by (k := k) lk hcd S (fun L => hcells L f cdv) hgh hq (hbody base · f cdv) 
  exact ⟨fun A outer s H args us vs hr e0 hb r hl => codeAny_mono (z.run A outer s H args us vs (hr.mono (Nat.le_succ k)) e0 hb r hl) fun r s' ⟨u, h1, h2⟩ => ⟨u, h1, ⟨by
    obtain ⟨qual, scope, f', cdv', body, a, gg, go, E, b1, b2, b3, b4, b5, b6, b7, b8, b9, b10, b11, b12, b13, b14⟩ := h2.ex
    exact ⟨qual, scope, f', cdv', body, a, gg, go, E, b1, b2, b3, b4, b5, b6, b7, b8, b9, b10, b11, b12, b13, fun Aw n it Hs hr hs => b14 Aw n it Hs (hr.mono (Nat.le_succ k)) hs⟩⟩⟩⟩
end G

namespace G
open PySem PySem.Spec PyProof.Rows L2 GenW
section
variable {K : PySem.W.Frag} {σ σ' : L2.St} {H H1 : Hp} {F : GF} {F1 F2 M : List Addr} {v u x : V} {α β : Type} {τ : Ty β} {te : TE} {ta : TA} {D : Ends} {t1 t2 tb : TS} {gt : TG} {sp : SpY} {vs : List V} {tot : List β}
/-- the items: the list's -/
def itY (K : PySem.W.Frag) {β : Type} (τ : Ty β) (tot : List β) : Nat → V → Hp → Prop := fun i x H => ∃ d, tot[i]? = some d ∧ τ.rep K H [] x d
/-! ### in the generator -/
def YG (q n : Nat) (it : Nat → V → Hp → Prop) (Hs : Hp) (nx : L2.St → Hp → Prop) (σ : L2.St) (x : V) (H1 : Hp) : Prop := ∃ y : Nat, σ[q]? = some (some (.int (y : Int))) ∧ y < n ∧ it y x H1 ∧ Chg [] Hs H1 ∧ ∀ H2, Chg [] H1 H2 → nx (σ.set q (some (.int ((y + 1 : Nat) : Int)))) H2
def tYq (q n : Nat) (it : Nat → V → Hp → Prop) (Hs : Hp) (te : TE) : TS := fun D σ H => te σ H fun x H1 => YG q n it Hs D.nx σ x H1
theorem pe_bmK {X : Cx} {K : PySem.W.Frag} {o e : Expr} {es : List Expr} {to : TE} {t : TA} {name : Str} {apos cpos : Pos} {T id : String} {r : V → List V → Hp → VK → Prop} (pa : PlainAttrs T) (slot : Slot T name id) (hty : typeOf (.builtin id) = pure (.type "method_descriptor")) (hm : MtR X id r) (ho : PE X o to) (ha : PA X (e :: es) t) (eK : X.K = K := by rfl)
    (hbase : attributeBase o name X.env (eval o X.env) = eval o X.env := by rfl)
    (hfew : ((backTo cpos (starEach (e :: es) X.env)).all (fun x => !x.1) && (backToKw cpos (keywordEach [] X.env)).all (fun x => x.1.isSome)
      && decide ((e :: es).length + ([] : List Keyword).length + (if ([] : List Keyword).isEmpty then 0 else 1) < 30)) = true := by rfl)
    (hline : (apos.endLine == cpos.line) = true := by rfl) (hs : starEach (e :: es) X.env = (false, eval e X.env) :: starEach es X.env := by rfl) (hplain : (backTo cpos (starEach es X.env)).any (·.1) = false := by rfl) :
    PE X (.Call (.Attribute o name apos) (e :: es) [] cpos) (tBM K T r to t) := by subst eK; exact pe_bm pa slot hty hm ho ha hbase hfew hline hs hplain
theorem pe_bm0K {X : Cx} {K : PySem.W.Frag} {o : Expr} {to : TE} {name : Str} {apos cpos : Pos} {T id : String} {r : V → List V → Hp → VK → Prop} (pa : PlainAttrs T) (slot : Slot T name id) (hty : typeOf (.builtin id) = pure (.type "method_descriptor")) (hm : MtR X id r) (ho : PE X o to) (eK : X.K = K := by rfl)
    (hbase : attributeBase o name X.env (eval o X.env) = eval o X.env := by rfl) (hline : (apos.endLine == cpos.line) = true := by rfl) : PE X (.Call (.Attribute o name apos) [] [] cpos) (tBM0 K T r to) := by subst eK; exact pe_bm0 pa slot hty hm ho hbase hline
theorem gs_yieldK {F : GF} (q n : Nat) (it : Nat → V → Hp → Prop) (Hs : Hp) {e : Expr} {te : TE} {yp pos : Pos} (ok : GGh F) (he : ∀ s Z, PE (F.at s Z) e te) (e1 : F.q = q := by rfl) (e2 : F.n = n := by rfl) (e3 : F.it = it := by rfl) (e4 : F.Hs = Hs := by rfl)
    (hco : F.X0.env.scope.isCoroutine = false := by rfl) (hi : interactive F.X0.env = false := by rfl) : GS F (.Expr (.Yield (some e) yp) pos) (tYq q n it Hs te) := by
  subst e1 e2 e3 e4; exact gs_yield ok he hco hi
theorem q_yld {q n : Nat} {it : Nat → V → Hp → Prop} {Hs : Hp} (h : te σ H fun x H1 => YG q n it Hs (t2 D) σ x H1) : tSeq (tYq q n it Hs te) t2 D σ H := h
theorem x_yld [DecidableEq β] {q : Nat} {Hs : Hp} {nx : L2.St → Hp → Prop} {y y' : Int} {d : β} (hm : Mi.yld tot y d = some y') (hs : σ[q]? = some (some (.int y))) (ru : τ.rep K H1 [] x d) (c : Chg [] Hs H1) (e : σ.set q (some (.int y')) = σ')
    (k : ∀ H2, Chg [] H1 H2 → nx σ' H2) : YG q tot.length (itY K τ tot) Hs nx σ x H1 := by
  obtain ⟨n, rfl, ht, rfl⟩ := Mi.yld_some hm
  subst e
  exact ⟨n, hs, (List.getElem?_eq_some_iff.mp ht).1, ⟨d, ht, ru⟩, c, k⟩
theorem y_end {y : Int} {n : Nat} {z : Unit} (h : Mi.guardO (decide (y = (n : Int))) = some z) : some (some (V.int y)) = some (some (V.int (n : Int))) := by
  unfold Mi.guardO at h
  split at h
  · rename_i c
    rw [of_decide_eq_true c]
  · cases h
def KeepsQ (q : Nat) (t : TGs) : Prop := ∀ vs σ H (Q : L2.St → Hp → Prop), t vs σ H Q → t vs σ H fun σ' H' => Q σ' H' ∧ σ'[q]? = σ[q]?
theorem keeps_nil {q : Nat} : KeepsQ q gNil := fun vs σ H Q h => ⟨h.1, h.2, rfl⟩
theorem keeps_cons {q i : Nat} {u : TGs} (h : i ≠ q) (k : KeepsQ q u) : KeepsQ q (gCons (gName i) u) := fun vs σ H Q z => by
  obtain ⟨v, r, e, z⟩ := z
  refine ⟨v, r, e, ?_⟩
  have y := k r (σ.set i (some v)) H Q z
  have e2 : (fun (σ' : L2.St) (H' : Hp) => Q σ' H' ∧ σ'[q]? = (σ.set i (some v))[q]?) = fun σ' H' => Q σ' H' ∧ σ'[q]? = σ[q]? := by
    funext σ' H'
    rw [List.getElem?_set_ne h]
  rw [e2] at y
  exact y
theorem keep_tup {K : PySem.W.Frag} {q n : Nat} {t : TGs} (k : KeepsQ q t) : KeepQ q (gTup K n t) := fun v σ H Q z => by
  obtain ⟨a, xs, e, s, l, z⟩ := z
  exact ⟨a, xs, e, s, l, k xs σ H Q z⟩
/-! ### kinds that may be handed over -/
def ExTy {β : Type} (τ : Ty β) : Prop := ∀ {K : PySem.W.Frag} {H H' : Hp} {v : V} {d : β}, τ.rep K H [] v d → (∀ b o, H b = some o → Exp o → H' b = some o) → τ.rep K H' [] v d
def ExTys {β : Type} (τ : Tys β) : Prop := ∀ {K : PySem.W.Frag} {H H' : Hp} {v : List V} {d : β}, τ.rep K H [] v d → (∀ b o, H b = some o → Exp o → H' b = some o) → τ.rep K H' [] v d
theorem ex_int : ExTy yInt := fun r _ => r
theorem ex_bool : ExTy yBool := fun r _ => r
theorem ex_str : ExTy yStr := fun r _ => r
theorem exs_one {τ : Ty β} (h : ExTy τ) : ExTys (sOne τ) := fun r k => by obtain ⟨v, e, q⟩ := r; exact ⟨v, e, h q k⟩
theorem exs_cons {τ : Ty α} {ts : Tys β} (h : ExTy τ) (hs : ExTys ts) : ExTys (sCons τ ts) := fun r k => by
  obtain ⟨v, ws, F1, F2, e, f, q1, q2⟩ := r
  obtain ⟨rfl, rfl⟩ := List.append_eq_nil_iff.mp f.symm
  exact ⟨v, ws, [], [], e, rfl, h q1 k, hs q2 k⟩
theorem sqt_ex {a : Addr} {ws : List V} {H' : Hp} (s : SqT K H a ws) (k : ∀ b o, H b = some o → Exp o → H' b = some o) : SqT K H' a ws := by
  rcases s with (s | ⟨o, s⟩) | s
  · exact .inl (.inl (k _ _ s trivial))
  · exact .inl (.inr ⟨o, k _ _ s trivial⟩)
  · exact .inr s
theorem ex_tup {ts : Tys β} (h : ExTys ts) : ExTy (yTup ts) := fun r k => by
  obtain ⟨a, ws, e, s, q⟩ := r
  exact ⟨a, ws, e, sqt_ex s k, h q k⟩
theorem ex_tupl {τ : Ty β} (h : ExTy τ) : ExTy (yTupL τ) := fun r k => by
  obtain ⟨a, ws, e, f, s, q⟩ := r
  exact ⟨a, ws, e, f, sqt_ex s k, Paired.mapP q fun u x z => h z k⟩
/-! ### in the caller -/
theorem rep_hide {τ : Ty α} {d : α} (r : τ.rep K H F1 v d) (dj : Dj F1 M) (fm : ∀ b ∈ M, ∃ o, H b = some o ∧ Flt o) : τ.rep K (hideM H M) F1 v d := τ.keep r fun b o e z => by
  have m : b ∉ M := fun m => by
    rcases z with z | z
    · exact dj b z m
    · obtain ⟨o', e', f⟩ := fm b m
      rw [e] at e'; cases e'
      cases o <;> first | exact f | exact z
  rw [hide_out m]; exact e
theorem flt_nil : ∀ b ∈ ([] : List Addr), ∃ o, H b = some o ∧ Flt o := fun b h => nomatch h
theorem flt_app (h1 : ∀ b ∈ F1, ∃ o, H b = some o ∧ Flt o) (h2 : ∀ b ∈ F2, ∃ o, H b = some o ∧ Flt o) : ∀ b ∈ F1 ++ F2, ∃ o, H b = some o ∧ Flt o := fun b h => (List.mem_append.mp h).elim (h1 b) (h2 b)
theorem flt_lst {xs : List β} (r : (yLst τ).rep K H F1 v xs) : ∀ b ∈ F1, ∃ o, H b = some o ∧ Flt o := fun b h => by
  obtain ⟨a, ws, rfl, rfl, g, _⟩ := r
  rw [List.mem_singleton] at h; subst h
  exact ⟨_, g, trivial⟩
theorem flt_set {w : World} {xs : List Int} (r : (ySet w).rep K H F1 v xs) : ∀ b ∈ F1, ∃ o, H b = some o ∧ Flt o := fun b h => by
  obtain ⟨a, e, rfl, g⟩ := r
  rw [List.mem_singleton] at h; subst h
  exact ⟨_, g, trivial⟩
def ForYG (sp : SpY) (vs : List V) (gt : TG) (tb : TS) (D : Ends) (σ : L2.St) (H1 : Hp) : Prop := ∃ (M : List Addr) (n : Nat) (it : Nat → V → Hp → Prop), (∀ b ∈ M, ∃ o, H1 b = some o ∧ Flt o) ∧ sp vs (hideM H1 M) n it ∧ ItOk H1 M it ∧ LoopY M n it gt tb D σ H1
theorem q_forY (h : ta σ H fun vs H1 => ForYG sp vs gt tb { D with nx := t2 D } σ H1) : tSeq (tForY sp ta gt tb) t2 D σ H := h
theorem l_ynm (h : ∀ HL, HL = H → ForYG sp vs gt tb D σ H) : ForYG sp vs gt tb D σ H := h H rfl
theorem l_yld (ex : ExTy τ) (M : List Addr) (fm : ∀ b ∈ M, ∃ o, H b = some o ∧ Flt o) (hsp : sp vs (hideM H M) tot.length (itY K τ tot)) (Pv : Nat → L2.St → Hp → Prop) (h0 : Pv 0 σ H) (hc : ∀ i σ' H', Pv i σ' H' → Chg M H H' ∧ ∀ b ∈ M, ∃ o, H' b = some o ∧ Flt o)
    (hs : ∀ (i : Nat) (x : β) (u : V) σ' H' H2, tot[i]? = some x → Chg [] H' H2 → τ.rep K H2 [] u x → Pv i σ' H' → gt u σ' H2 fun σ3 H3 => tb { D with nx := Pv (i + 1), ct := Pv (i + 1), bk := D.nx } σ3 H3)
    (hd : ∀ σ' H' H2, Chg [] H' H2 → Pv tot.length σ' H' → D.nx σ' H2) : ForYG sp vs gt tb D σ H := by
  refine ⟨M, tot.length, itY K τ tot, fm, hsp, fun i x Hy H' h _ k => ?_, fun i σ' H' => i ≤ tot.length ∧ Pv i σ' H', ⟨Nat.zero_le _, h0⟩, fun i σ' H' w => ?_⟩
  · obtain ⟨d, e, r⟩ := h
    exact ⟨d, e, ex r k⟩
  · obtain ⟨hi, p⟩ := w
    obtain ⟨c1, c2⟩ := hc i σ' H' p
    refine ⟨c1, c2, ?_⟩
    by_cases hlt : i < tot.length
    · refine .inr ⟨hlt, fun x H2 c hit => ?_⟩
      obtain ⟨d, e, r⟩ := hit
      have z := hs i d x σ' H' H2 e c r p
      have e2 : Pv (i + 1) = fun σ' H' => i + 1 ≤ tot.length ∧ Pv (i + 1) σ' H' := by
        funext σ' H'
        exact propext ⟨fun q => ⟨hlt, q⟩, fun q => q.2⟩
      rw [e2] at z
      exact z
    · obtain rfl : i = tot.length := by omega
      exact .inl ⟨rfl, fun H2 c => hd σ' H' H2 c p⟩
end
end G

namespace G
open PySem PySem.Spec PyProof.Rows L2
def topS (i : Nat) : Stmt := PySem.Challenge.pw_fogfleet_k14_sight_zone.main.body.getD i (.Pass ⟨0, 0, 0, 0⟩)
structure Cs (K : PySem.W.Frag) (mg : Str → Option Value) : Prop where
  c_GREATEST_DEPTH : ∃ t, mg "GREATEST_DEPTH" = some (.int 99 t)
  c_GREATEST_TIDE : ∃ t, mg "GREATEST_TIDE" = some (.int 20 t)
  c_LAST_PLACE : ∃ t, mg "LAST_PLACE" = some (.int 11 t)
  c_MOST_PLACES : ∃ t, mg "MOST_PLACES" = some (.int 12 t)
  c_MOST_REACH : ∃ t, mg "MOST_REACH" = some (.int 3 t)
  c_MOST_SIGNS : ∃ t, mg "MOST_SIGNS" = some (.int 12 t)
  c_MOST_TIDE_NUMBERS : ∃ t, mg "MOST_TIDE_NUMBERS" = some (.int 12 t)
  c_SIGNS : ∃ t, mg "SIGNS" = some (.str "*." t)
  d_Chart_tide : ∀ H, (yTupL yInt).rep K H [] (.ref (kwdAt ("Chart", some "__init__") "tide" K)) ([0] : List Int)
  d_Chart_harbours : ∀ H, (yTupL yInt).rep K H [] (.ref (kwdAt ("Chart", some "__init__") "harbours" K)) ([] : List Int)
abbrev nm_Light : List Str := ["place", "pattern", "reach"]
abbrev ty_Light : Tys (Int × (List Nat) × Int) := (sCons yInt (sCons yStr (sOne yInt)))
abbrev kw_Light (K : PySem.W.Frag) : List (Str × V) := [("reach", .int 1)]
abbrev nm_Chart : List Str := ["size", "depths", "lanes", "tide", "harbours", "joined"]
abbrev ty_Chart : Tys (Int × (List Int) × (List (Int × Int)) × (List Int) × (List Int) × (List (List Int))) := (sCons yInt (sCons (yTupL yInt) (sCons (yTupL (yTup (sCons yInt (sOne yInt)))) (sCons (yTupL yInt) (sCons (yTupL yInt) (sOne (yTupL (yTupL yInt))))))))
abbrev kw_Chart (K : PySem.W.Frag) : List (Str × V) := [("tide", .ref (kwdAt ("Chart", some "__init__") "tide" K)), ("harbours", .ref (kwdAt ("Chart", some "__init__") "harbours" K))]
section
variable {P : Program} {w : World} {K : PySem.W.Frag} {mg : Str → Option Value}
abbrev s_every_place : Stmt := topS 6
abbrev N_every_place : List Str := ["chart"]
theorem sc_every_place : FnScope ["chart"] ["chart"] (defScope s_every_place) := ⟨rfl, rfl, rfl, by decide +kernel, rfl, by decide +kernel, by decide +kernel⟩
def sp_every_place (K : PySem.W.Frag) (C_Chart : Addr) : Sp := fun vs H Q _ => ∃ (v0 : V) (d0 : (Int × (List Int) × (List (Int × Int)) × (List Int) × (List Int) × (List (List Int)))) (r : (List Bool)), vs = [v0] ∧ (yObj C_Chart nm_Chart ty_Chart).rep K H [] v0 d0 ∧ Mi.m_every_place d0 = some r ∧ ∀ v H' F, Chg ([]) H H' → (yLst yBool).rep K H' F v r → (∀ a ∈ F, H a = none) → Q v H'
theorem ok_every_place (B : Bi mg) (CN : Cs K mg) (D : Dfn K mg "every_place" s_every_place) {C_Chart : Addr} (T_Chart : Tx K mg C_Chart "Chart" nm_Chart) : Cal P w K mg "every_place" ["chart"] 1 (sp_every_place K C_Chart) := by
  obtain ⟨f, fd, F, g⟩ := D.ex
  refine ⟨f, fd, g, F.kp, bindsF F (fun _ _ _ _ _ _ us hl => match us, hl with | [_], _ => rfl), fun base => F.ok sc_every_place (fun vs H Q E h => ?_) (fun cdv A outer s H0 vs Q E hr h => ?_)⟩
  · obtain ⟨v0, d0, r, rfl, r0, hm, hQ⟩ := h; rfl
  ·
    obtain ⟨v0, d0, r, rfl, r0, hm, hQ⟩ := h
    refine ⟨_, pss_cons (ps_ret (pe_op op_rep (pe_lst (pa_cons pe_bl pa_nil)) (pe_fldk (K := K) (pv 0) (by rfl)))) pss_nil, ?_⟩
    have c0 : Chg ([] : List Addr) H0 H0 := Chg.refl H0
    unfold Mi.m_every_place at hm
    refine q_ret ?_
    refine w_op ?_
    refine w_lst ?_
    refine w_args (va_cons val_c va_nil) ?_
    refine e_lst (K := K) (τ := yBool) (by exact Nat.le_of_ble_eq_true rfl) (.cons yBool_i .nil) fun p2 H6 np5 c3 r4 => ?_
    have n7 : ∀ a ∈ [p2], H0 a = none := one_fresh (c0.dom p2 np5)
    have r0 := Ty.fz r0 c3
    have c0 := c0.trans c3.none
    obtain ⟨u8, r9, kx10, ku11⟩ := fld_obj (n := 0) (f := "size") at0 (by decide +kernel) rfl T_Chart.cls (T_Chart.na "size" (by decide +kernel)) r0
    obtain ⟨_, rfl⟩ := r9
    refine c_val (ku11 (val_var rfl)) ?_
    obtain ⟨x12, hx12, hm⟩ := Mi.bnd hm
    refine w_rep r4 hx12 fun p13 H17 np16 c14 r15 => ?_
    have d18 : Dj [p2] [p13] := Ty.nin r4 np16
    have n19 : ∀ a ∈ [p13], H0 a = none := one_fresh (c0.dom p13 np16)
    have r0 := Ty.fz r0 c14
    have r4 := Ty.ex r4 c14
    have c0 := c0.trans c14.none
    obtain rfl := Option.some.inj hm
    exact hQ _ _ _ c0 r15 n19 
abbrev s_is_pattern : Stmt := topS 14
abbrev N_is_pattern : List Str := ["text", "sign"]
theorem sc_is_pattern : FnScope ["text", "sign"] ["text"] (defScope s_is_pattern) := ⟨rfl, rfl, rfl, by decide +kernel, rfl, by decide +kernel, by decide +kernel⟩
def sp_is_pattern (K : PySem.W.Frag) : Sp := fun vs H Q _ => ∃ (d0 : (List Nat)) (r : Bool), vs = [(.str (toS d0))] ∧ Mi.m_is_pattern d0 = some r ∧ ∀ H', Chg ([]) H H' → Q (.bl r) H'
theorem ok_is_pattern (B : Bi mg) (CN : Cs K mg) (D : Dfn K mg "is_pattern" s_is_pattern)  : Cal P w K mg "is_pattern" ["text"] 1 (sp_is_pattern K) := by
  obtain ⟨f, fd, F, g⟩ := D.ex
  refine ⟨f, fd, g, F.kp, bindsF F (fun _ _ _ _ _ _ us hl => match us, hl with | [_], _ => rfl), fun base => F.ok sc_is_pattern (fun vs H Q E h => ?_) (fun cdv A outer s H0 vs Q E hr h => ?_)⟩
  · obtain ⟨d0, r, rfl, hm, hQ⟩ := h; rfl
  ·
    obtain ⟨d0, r, rfl, hm, hQ⟩ := h
    refine ⟨_, pss_cons (ps_if (PW.pt (pw_or (pt_cmpR op_lt (pe_callB cl_lenTx (by rfl) B.len PySem.boot_len (pa_cons (pv 0) pa_nil)) pe_int (nomark _)) (pw_or1 (pt_cmpR op_gt (pe_callB cl_lenTx (by rfl) B.len PySem.boot_len (pa_cons (pv 0) pa_nil)) (pe_glob (v := .int 12) (by rfl) CN.c_MOST_SIGNS.choose_spec ⟨_, rfl⟩) (nomark _))))) (pss_cons (ps_ret pe_bl) pss_nil) (pss_nil))
      (pss_cons (ps_ret (pe_cmpR op_eq (pe_callB (cl_len (K := K)) (by rfl) B.len PySem.boot_len (pa_cons (pe_lc (own := [("sign", 1)]) rfl sc_is_pattern.nd (pi_str (pv 0)) (blkOk_by (own := [("sign", 1)]) (N := N_is_pattern) (sc := defScope s_is_pattern) (by decide +kernel)) (fun _ _ _ _ _ => (pg_name (i := 1) sc_is_pattern.nd rfl (.inl rfl))) (fun _ _ _ _ _ => (pts_one (pt_cmpR op_ni_c (pv 1) (pe_glob (v := .str "*.") (by rfl) CN.c_SIGNS.choose_spec ⟨_, rfl⟩) (by rfl)))) (fun _ _ _ _ _ => (pv 1))) pa_nil)) pe_int (nomark _))) pss_nil), ?_⟩
    have c0 : Chg ([] : List Addr) H0 H0 := Chg.refl H0
    unfold Mi.m_is_pattern at hm
    obtain ⟨x2, hx2, hm⟩ := Mi.bnd hm
    obtain ⟨b5, hb5, hm⟩ := Mi.bnd hm
    refine q_if (ans_orO (ans_t (val_lt (val_lenTx hx2 (val_var rfl)) val_c)) hb5 (fun hs3 => by (obtain ⟨x4, hx4, hs3⟩ := Mi.bnd hs3; cases hs3; exact (ans_t (val_gt (val_lenTx hx4 (val_var rfl)) val_c))))) (fun hb => ?_) (fun hb => ?_)
    ·
      replace hm := Mi.ifT hb hm
      refine q_ret ?_
      refine c_val val_c ?_
      obtain rfl := Option.some.inj hm
      exact hQ _ c0 
    replace hm := Mi.ifF hb hm
    refine w_fall ?_
    refine q_ret ?_
    refine w_op ?_
    refine w_cb ?_
    refine w_cons ?_
    refine w_lc ?_
    refine w_iStr ?_
    refine c_val (val_var rfl) ?_
    obtain ⟨e6, he6, hm⟩ := Mi.bnd hm
    refine kc_str (K := K) (τ := yStr) (a := d0) (fun D8 i H' => ∃ (s7 : (List (List Nat))), Chg ([] : List Addr) H0 H' ∧ (yLst yStr).rep K H' [D8] (.ref D8) s7 ∧ (∀ a ∈ [D8], H0 a = none) ∧ Mi.forN (Mi.m_is_pattern_b1) s7 (List.drop i (Mi.signs d0)) = some e6) (fun D8 H14 np13 c12 r9 => ⟨([] : (List (List Nat))), c0.trans c12.none, r9, one_fresh (c0.dom D8 np13), he6⟩) (fun D8 i17 x16 H18 hx15 hp => ?_) (fun D8 H' np13 hp => ?_)
    ·
      obtain ⟨s7, c0, r9, n11, hle6⟩ := hp
      obtain ⟨_, hbe6, hle6⟩ := Mi.forN_go hle6 hx15
      unfold Mi.m_is_pattern_b1 at hbe6
      refine g_name (σ' := [some (.str (toS d0)), some (.str (toS x16))]) rfl ?_
      refine ⟨rfl, ?_⟩
      obtain ⟨b25, hb25, hbe6⟩ := Mi.bnd hbe6
      refine c_ans (ans_t (val_niC hb25 (val_var rfl) (val_cS (a := ([42, 46] : List Nat)) (by decide +kernel)))) ?_
      refine c_if (fun hb => ?_) (fun hb => ?_)
      ·
        replace hbe6 := Mi.ifT hb hbe6
        refine c_val (val_var rfl) ?_
        obtain ⟨x26, hx26, hbe6⟩ := Mi.bnd hbe6
        refine e_app r9 yStr_i hx26 fun H28 c27 r9 => ?_
        have c0 := c0.join c27 (fun a h => .inr (n11 a h))
        obtain rfl := Option.some.inj hbe6
        exact ⟨x26, c0, r9, n11, hle6⟩
      ·
        replace hbe6 := Mi.ifF hb hbe6
        obtain rfl := Option.some.inj hbe6
        exact ⟨s7, c0, r9, n11, hle6⟩
    obtain ⟨s7, c0, r9, n11, hle6⟩ := hp
    obtain rfl := Mi.forN_end hle6
    refine w_nil ?_
    refine w_lenL r9 ?_
    refine c_val val_c ?_
    refine w_eqI ?_
    obtain rfl := Option.some.inj hm
    exact hQ _ c0 
abbrev s_Light_init : Stmt := inClass (topS 15) 0
abbrev N_Light_init : List Str := ["self", "place", "pattern", "reach"]
theorem sc_Light_init : FnScope ["self", "place", "pattern", "reach"] ["self", "place", "pattern", "reach"] (defScope s_Light_init) := ⟨rfl, rfl, rfl, by decide +kernel, rfl, by decide +kernel, by decide +kernel⟩
def sp_Light_init (K : PySem.W.Frag) (C_Light : Addr) : Sp := fun vs H Q _ => ∃ (x0 dx0 : Addr) (d1 : Int) (d2 : (List Nat)) (d3 : Int) (r : (Int × (List Nat) × Int)), vs = [.ref x0, (.int d1), (.str (toS d2)), (.int d3)] ∧ (yPart C_Light dx0 []).rep K H [x0] (.ref x0) [] ∧ Mi.m_Light_init d1 d2 d3 = some r ∧ ∀ H', Chg [x0] H H' → (yObj C_Light nm_Light ty_Light).rep K H' [] (.ref x0) r → Q .non H'
theorem ok_Light_init (B : Bi mg) (CN : Cs K mg) {C_Light : Addr} (T_Light : Tx K mg C_Light "Light" nm_Light) (C_is_pattern : Cal P w K mg "is_pattern" ["text"] 1 (sp_is_pattern K)) (D : DfnI K C_Light "Light.__init__" s_Light_init (kw_Light K) ) : CalI P w K mg C_Light "Light.__init__" s_Light_init (kw_Light K) ["self", "place", "pattern", "reach"] 2 (sp_Light_init K C_Light) := by
  obtain ⟨f, fd, F, g⟩ := D.ex
  refine ⟨f, fd, g, F, fun base => okD F sc_Light_init (fun vs H Q E h => ?_) (fun cdv A outer s H0 vs Q E hr h => ?_)⟩
  · obtain ⟨x0, dx0, d1, d2, d3, r, rfl, rs, hm, hQ⟩ := h; rfl
  ·
    obtain ⟨x0, dx0, d1, d2, d3, r, rfl, rs, hm, hQ⟩ := h
    refine ⟨_, pss_cons (ps_if (PW.pt (pw_or (pt_cmpR op_lt (pv 1) pe_int (nomark _)) (pw_or1 (pt_cmpR op_gt (pv 1) (pe_glob (v := .int 11) (by rfl) CN.c_LAST_PLACE.choose_spec ⟨_, rfl⟩) (nomark _))))) (pss_cons ps_never pss_nil) (pss_nil))
      (pss_cons (ps_if (pt_not (pt_val (pe_cc C_is_pattern hr (pa_cons (pv 2) pa_nil)))) (pss_cons ps_never pss_nil) (pss_nil))
      (pss_cons (ps_if (PW.pt (pw_or (pt_cmpR op_lt (pv 3) pe_int (nomark _)) (pw_or1 (pt_cmpR op_gt (pv 3) (pe_glob (v := .int 3) (by rfl) CN.c_MOST_REACH.choose_spec ⟨_, rfl⟩) (nomark _))))) (pss_cons ps_never pss_nil) (pss_nil))
      (pss_cons (ps_fld (pv 0) (pv 1) rfl)
      (pss_cons (ps_fld (pv 0) (pv 2) rfl)
      (pss_cons (ps_fld (pv 0) (pv 3) rfl)
      (pss_nil)))))), ?_⟩
    have c0 : Chg ([x0]) H0 H0 := Chg.refl H0
    unfold Mi.m_Light_init at hm
    refine q_if (ans_orB (ans_t (val_lt (val_var rfl) val_c)) (fun _ => (ans_t (val_gt (val_var rfl) val_c)))) (fun hb => ?_) (fun hb => ?_)
    ·
      replace hm := Mi.ifT hb hm
      cases hm
    replace hm := Mi.ifF hb hm
    refine w_fall ?_
    refine q_ifS ?_
    refine w_not ?_
    refine w_B ?_
    refine w_call ?_
    refine w_args (va_cons (val_var rfl) va_nil) ?_
    obtain ⟨q6, hq6, hm⟩ := Mi.bnd hm
    refine ⟨d2, q6, rfl, hq6, fun H8 c7  => ?_⟩
    have rs := Ty.ex rs c7
    have c0 := c0.trans c7.none
    refine ⟨_, rfl, ?_⟩
    refine c_if (fun hb => ?_) (fun hb => ?_)
    ·
      replace hm := Mi.ifT hb hm
      cases hm
    replace hm := Mi.ifF hb hm
    refine w_fall ?_
    refine q_if (ans_orB (ans_t (val_lt (val_var rfl) val_c)) (fun _ => (ans_t (val_gt (val_var rfl) val_c)))) (fun hb => ?_) (fun hb => ?_)
    ·
      replace hm := Mi.ifT hb hm
      cases hm
    replace hm := Mi.ifF hb hm
    refine w_fall ?_
    refine q_fld ?_
    refine c_val (val_var rfl) ?_
    refine c_val (val_var rfl) ?_
    refine m_fldP rs T_Light.cls (T_Light.na "place" (by decide +kernel)) (by decide +kernel) rfl (by decide) rfl fun H11 c10 rs => ?_
    have c0 := c0.join c10 (fun a h => .inl (h))
    have rs : (yPart C_Light dx0 (["place"] : List Str)).rep K _ [x0] (.ref x0) [(.int d1)] := rs
    refine q_fld ?_
    refine c_val (val_var rfl) ?_
    refine c_val (val_var rfl) ?_
    refine m_fldP rs T_Light.cls (T_Light.na "pattern" (by decide +kernel)) (by decide +kernel) rfl (by decide) rfl fun H13 c12 rs => ?_
    have c0 := c0.join c12 (fun a h => .inl (h))
    have rs : (yPart C_Light dx0 (["place", "pattern"] : List Str)).rep K _ [x0] (.ref x0) [(.int d1), (.str (toS d2))] := rs
    refine q_fld ?_
    refine c_val (val_var rfl) ?_
    refine c_val (val_var rfl) ?_
    refine m_fldE (ts := ty_Light) (d := (d1, d2, d3)) rs T_Light.cls (T_Light.na "reach" (by decide +kernel)) (by decide +kernel) rfl (by decide) rfl ⟨_, _, _, _, rfl, rfl, yInt_i, ⟨_, _, _, _, rfl, rfl, yStr_i, ⟨_, rfl, yInt_i⟩⟩⟩ fun H15 c14 rs => ?_
    have c0 := c0.join c14 (fun a h => .inl (h))
    refine w_next ?_
    obtain rfl := Option.some.inj hm
    exact hQ _ c0 rs
abbrev s_is_zone : Stmt := topS 18
abbrev N_is_zone : List Str := ["zone", "size", "found", "place"]
theorem sc_is_zone : FnScope ["zone", "size", "found", "place"] ["zone", "size"] (defScope s_is_zone) := ⟨rfl, rfl, rfl, by decide +kernel, rfl, by decide +kernel, by decide +kernel⟩
def sp_is_zone (K : PySem.W.Frag) : Sp := fun vs H Q _ => (∃ (v0 : V) (F0 : List Addr) (d0 : (List Int)) (d1 : Int) (r : Bool), vs = [v0, (.int d1)] ∧ (yLst yInt).rep K H F0 v0 d0 ∧ Mi.m_is_zone_0 d0 d1 = some r ∧ ∀ H', Chg ([]) H H' → Q (.bl r) H') ∨ (∃ (v0 : V) (d0 : (List Int)) (d1 : Int) (r : Bool), vs = [v0, (.int d1)] ∧ (yTupL yInt).rep K H [] v0 d0 ∧ Mi.m_is_zone_1 d0 d1 = some r ∧ ∀ H', Chg ([]) H H' → Q (.bl r) H')
theorem ok_is_zone (B : Bi mg) (CN : Cs K mg) (D : Dfn K mg "is_zone" s_is_zone)  : Cal P w K mg "is_zone" ["zone", "size"] 1 (sp_is_zone K) := by
  obtain ⟨f, fd, F, g⟩ := D.ex
  refine ⟨f, fd, g, F.kp, bindsF F (fun _ _ _ _ _ _ us hl => match us, hl with | [_, _], _ => rfl), fun base => F.ok sc_is_zone (fun vs H Q E h => ?_) (fun cdv A outer s H0 vs Q E hr h => ?_)⟩
  · rcases h with ⟨v0, F0, d0, d1, r, rfl, r0, hm, hQ⟩ | ⟨v0, d0, d1, r, rfl, r0, hm, hQ⟩
    all_goals rfl
  · rcases h with h | h
    ·
      obtain ⟨v0, F0, d0, d1, r, rfl, r0, hm, hQ⟩ := h
      refine ⟨_, pss_cons (ps_set (i := 2) sc_is_zone.nd rfl (.inl rfl) (pe_callTy0 (cl_set0 (w := w)) (by rfl) B.set (by decide +kernel)))
      (pss_cons (ps_for PassesOwn.never rfl (pi_list (pv 0)) (pg_name (i := 3) sc_is_zone.nd rfl (.inl rfl)) (pss_cons (ps_if (PW.pt (pw_or (pt_cmpR op_lt (pv 3) pe_int (nomark _)) (pw_or (pt_cmpR op_ge (pv 3) (pv 1) (nomark _)) (pw_or1 (pt_cmpR (op_in_s (w := w)) (pv 3) (pv 2) (by rfl)))))) (pss_cons (ps_ret pe_bl) pss_nil) (pss_nil))
      (pss_cons (ps_expr (pe_sadd (pv 2) (pa_cons (pv 3) pa_nil)))
      (pss_nil))))
      (pss_cons (ps_ret pe_bl) pss_nil)), ?_⟩
      have c0 : Chg ([] : List Addr) H0 H0 := Chg.refl H0
      unfold Mi.m_is_zone_0 at hm
      refine q_asg ?_
      refine w_cb ?_
      refine w_nil ?_
      refine w_set0 (K := K) (w := w) fun p3 H7 np6 c4 r5 => ?_
      have d8 : Dj F0 [p3] := Ty.nin r0 np6
      have n9 : ∀ a ∈ [p3], H0 a = none := one_fresh (c0.dom p3 np6)
      have r0 := Ty.ex r0 c4
      have c0 := c0.trans c4.none
      refine g_name (σ' := [some v0, some (.int d1), some (.ref p3), none]) rfl ?_
      refine q_for ?_
      refine w_iList ?_
      refine c_val (val_var rfl) ?_
      obtain ⟨e10, he10, hm⟩ := Mi.bnd hm
      refine l_lst r0 (fun i σ' H' => ∃ (s11 : (List Int)) (y12 : Option V), σ' = [some v0, some (.int d1), some (.ref p3), y12] ∧ Chg ([] : List Addr) H0 H' ∧ (yLst yInt).rep K H' F0 v0 d0 ∧ (ySet w).rep K H' [p3] (.ref p3) s11 ∧ Mi.forR (Mi.m_is_zone_0_b1 d1) s11 (List.drop i d0) = some e10) ⟨([] : List Int), none, rfl, c0, r0, r5, he10⟩ (fun i σ' H' hp => by obtain ⟨s11, y12, rfl, c0, r0, r5, _⟩ := hp; exact r0) (fun i15 x14 u16 σ' H' hx13 r17 hp => ?_) (fun σ' H' hp => ?_)
      ·
        obtain ⟨s11, y12, rfl, c0, r0, r5, hle10⟩ := hp
        obtain ⟨o18, hbe10, hore10⟩ := Mi.forR_go hle10 hx13
        unfold Mi.m_is_zone_0_b1 at hbe10
        obtain ⟨_, rfl⟩ := r17
        refine g_name (σ' := [some v0, some (.int d1), some (.ref p3), some (.int x14)]) rfl ?_
        refine q_if (ans_orB (ans_t (val_lt (val_var rfl) val_c)) (fun _ => (ans_orB (ans_t (val_ge (val_var rfl) (val_var rfl))) (fun _ => (ans_t (val_inS r5 (val_var rfl) (val_var rfl))))))) (fun hb => ?_) (fun hb => ?_)
        ·
          replace hbe10 := Mi.ifT hb hbe10
          refine q_ret ?_
          refine c_val val_c ?_
          obtain rfl := Option.some.inj hbe10
          obtain rfl := Mi.or_inl hore10
          obtain rfl := Option.some.inj (Mi.orR_inl hm)
          exact hQ _ c0 
        replace hbe10 := Mi.ifF hb hbe10
        refine w_fall ?_
        refine q_drop (w_sadd (c_val (val_var rfl) ⟨tyv_set r5, ?_⟩))
        refine w_args (va_cons (val_var rfl) va_nil) ?_
        obtain ⟨x21, hx21, hbe10⟩ := Mi.bnd hbe10
        refine m_sadd r5 hx21 fun H23 c22 r5 => ?_
        have r0 := Ty.chg r0 c22 d8
        have c0 := c0.join c22 (fun a h => .inr (n9 a h))
        refine w_nextJ ?_
        obtain rfl := Option.some.inj hbe10
        replace hore10 := Mi.or_inr hore10
        exact ⟨_, (some (.int x14)), rfl, c0, r0, r5, hore10⟩
      obtain ⟨s11, y12, rfl, c0, r0, r5, hle10⟩ := hp
      obtain rfl := Mi.forR_end hle10
      replace hm := Mi.orR_inr hm
      refine q_ret ?_
      refine c_val val_c ?_
      obtain rfl := Option.some.inj hm
      exact hQ _ c0 
    ·
      obtain ⟨v0, d0, d1, r, rfl, r0, hm, hQ⟩ := h
      refine ⟨_, pss_cons (ps_set (i := 2) sc_is_zone.nd rfl (.inl rfl) (pe_callTy0 (cl_set0 (w := w)) (by rfl) B.set (by decide +kernel)))
      (pss_cons (ps_for PassesOwn.never rfl (pi_tup (pv 0)) (pg_name (i := 3) sc_is_zone.nd rfl (.inl rfl)) (pss_cons (ps_if (PW.pt (pw_or (pt_cmpR op_lt (pv 3) pe_int (nomark _)) (pw_or (pt_cmpR op_ge (pv 3) (pv 1) (nomark _)) (pw_or1 (pt_cmpR (op_in_s (w := w)) (pv 3) (pv 2) (by rfl)))))) (pss_cons (ps_ret pe_bl) pss_nil) (pss_nil))
      (pss_cons (ps_expr (pe_sadd (pv 2) (pa_cons (pv 3) pa_nil)))
      (pss_nil))))
      (pss_cons (ps_ret pe_bl) pss_nil)), ?_⟩
      have c0 : Chg ([] : List Addr) H0 H0 := Chg.refl H0
      unfold Mi.m_is_zone_1 at hm
      refine q_asg ?_
      refine w_cb ?_
      refine w_nil ?_
      refine w_set0 (K := K) (w := w) fun p3 H7 np6 c4 r5 => ?_
      have n8 : ∀ a ∈ [p3], H0 a = none := one_fresh (c0.dom p3 np6)
      have r0 := Ty.fz r0 c4
      have c0 := c0.trans c4.none
      refine g_name (σ' := [some v0, some (.int d1), some (.ref p3), none]) rfl ?_
      refine q_for ?_
      refine w_iTup ?_
      refine c_val (val_var rfl) ?_
      obtain ⟨e9, he9, hm⟩ := Mi.bnd hm
      refine l_tup r0 (fun i σ' H' => ∃ (s10 : (List Int)) (y11 : Option V), σ' = [some v0, some (.int d1), some (.ref p3), y11] ∧ Chg ([] : List Addr) H0 H' ∧ (yTupL yInt).rep K H' [] v0 d0 ∧ (ySet w).rep K H' [p3] (.ref p3) s10 ∧ Mi.forR (Mi.m_is_zone_1_b1 d1) s10 (List.drop i d0) = some e9) ⟨([] : List Int), none, rfl, c0, r0, r5, he9⟩ (fun i σ' H' hp => by obtain ⟨s10, y11, rfl, c0, r0, r5, _⟩ := hp; exact r0) (fun i14 x13 u15 σ' H' hx12 r16 hp => ?_) (fun σ' H' hp => ?_)
      ·
        obtain ⟨s10, y11, rfl, c0, r0, r5, hle9⟩ := hp
        obtain ⟨o17, hbe9, hore9⟩ := Mi.forR_go hle9 hx12
        unfold Mi.m_is_zone_1_b1 at hbe9
        obtain ⟨_, rfl⟩ := r16
        refine g_name (σ' := [some v0, some (.int d1), some (.ref p3), some (.int x13)]) rfl ?_
        refine q_if (ans_orB (ans_t (val_lt (val_var rfl) val_c)) (fun _ => (ans_orB (ans_t (val_ge (val_var rfl) (val_var rfl))) (fun _ => (ans_t (val_inS r5 (val_var rfl) (val_var rfl))))))) (fun hb => ?_) (fun hb => ?_)
        ·
          replace hbe9 := Mi.ifT hb hbe9
          refine q_ret ?_
          refine c_val val_c ?_
          obtain rfl := Option.some.inj hbe9
          obtain rfl := Mi.or_inl hore9
          obtain rfl := Option.some.inj (Mi.orR_inl hm)
          exact hQ _ c0 
        replace hbe9 := Mi.ifF hb hbe9
        refine w_fall ?_
        refine q_drop (w_sadd (c_val (val_var rfl) ⟨tyv_set r5, ?_⟩))
        refine w_args (va_cons (val_var rfl) va_nil) ?_
        obtain ⟨x20, hx20, hbe9⟩ := Mi.bnd hbe9
        refine m_sadd r5 hx20 fun H22 c21 r5 => ?_
        have r0 := Ty.fz r0 c21
        have c0 := c0.join c21 (fun a h => .inr (n8 a h))
        refine w_nextJ ?_
        obtain rfl := Option.some.inj hbe9
        replace hore9 := Mi.or_inr hore9
        exact ⟨_, (some (.int x13)), rfl, c0, r0, r5, hore9⟩
      obtain ⟨s10, y11, rfl, c0, r0, r5, hle9⟩ := hp
      obtain rfl := Mi.forR_end hle9
      replace hm := Mi.orR_inr hm
      refine q_ret ?_
      refine c_val val_c ?_
      obtain rfl := Option.some.inj hm
      exact hQ _ c0 
abbrev s_good_numbers : Stmt := topS 24
abbrev N_good_numbers : List Str := ["numbers", "most", "greatest", "number"]
theorem sc_good_numbers : FnScope ["numbers", "most", "greatest", "number"] ["numbers", "most", "greatest"] (defScope s_good_numbers) := ⟨rfl, rfl, rfl, by decide +kernel, rfl, by decide +kernel, by decide +kernel⟩
def sp_good_numbers (K : PySem.W.Frag) : Sp := fun vs H Q _ => ∃ (v0 : V) (F0 : List Addr) (d0 : (List Int)) (d1 : Int) (d2 : Int) (r : Bool), vs = [v0, (.int d1), (.int d2)] ∧ (yLst yInt).rep K H F0 v0 d0 ∧ Mi.m_good_numbers d0 d1 d2 = some r ∧ ∀ H', Chg ([]) H H' → Q (.bl r) H'
theorem ok_good_numbers (B : Bi mg) (CN : Cs K mg) (D : Dfn K mg "good_numbers" s_good_numbers)  : Cal P w K mg "good_numbers" ["numbers", "most", "greatest"] 1 (sp_good_numbers K) := by
  obtain ⟨f, fd, F, g⟩ := D.ex
  refine ⟨f, fd, g, F.kp, bindsF F (fun _ _ _ _ _ _ us hl => match us, hl with | [_, _, _], _ => rfl), fun base => F.ok sc_good_numbers (fun vs H Q E h => ?_) (fun cdv A outer s H0 vs Q E hr h => ?_)⟩
  · obtain ⟨v0, F0, d0, d1, d2, r, rfl, r0, hm, hQ⟩ := h; rfl
  ·
    obtain ⟨v0, F0, d0, d1, d2, r, rfl, r0, hm, hQ⟩ := h
    refine ⟨_, pss_cons (ps_if (PW.pt (pw_or (pt_cmpR op_lt (pe_callB (cl_len (K := K)) (by rfl) B.len PySem.boot_len (pa_cons (pv 0) pa_nil)) pe_int (nomark _)) (pw_or1 (pt_cmpR op_gt (pe_callB (cl_len (K := K)) (by rfl) B.len PySem.boot_len (pa_cons (pv 0) pa_nil)) (pv 1) (nomark _))))) (pss_cons (ps_ret pe_bl) pss_nil) (pss_nil))
      (pss_cons (ps_for PassesOwn.never rfl (pi_list (pv 0)) (pg_name (i := 3) sc_good_numbers.nd rfl (.inl rfl)) (pss_cons (ps_if (PW.pt (pw_or (pt_cmpR op_lt (pv 3) pe_int (nomark _)) (pw_or1 (pt_cmpR op_gt (pv 3) (pv 2) (nomark _))))) (pss_cons (ps_ret pe_bl) pss_nil) (pss_nil))
      (pss_nil)))
      (pss_cons (ps_ret pe_bl) pss_nil)), ?_⟩
    have c0 : Chg ([] : List Addr) H0 H0 := Chg.refl H0
    unfold Mi.m_good_numbers at hm
    refine q_if (ans_orB (ans_t (val_lt (val_lenL r0 (val_var rfl)) val_c)) (fun _ => (ans_t (val_gt (val_lenL r0 (val_var rfl)) (val_var rfl))))) (fun hb => ?_) (fun hb => ?_)
    ·
      replace hm := Mi.ifT hb hm
      refine q_ret ?_
      refine c_val val_c ?_
      obtain rfl := Option.some.inj hm
      exact hQ _ c0 
    replace hm := Mi.ifF hb hm
    refine w_fall ?_
    refine q_for ?_
    refine w_iList ?_
    refine c_val (val_var rfl) ?_
    obtain ⟨e5, he5, hm⟩ := Mi.bnd hm
    refine l_lst r0 (fun i σ' H' => ∃ (s6 : Unit) (y7 : Option V), σ' = [some v0, some (.int d1), some (.int d2), y7] ∧ Chg ([] : List Addr) H0 H' ∧ (yLst yInt).rep K H' F0 v0 d0 ∧ Mi.forR (Mi.m_good_numbers_b1 d2) s6 (List.drop i d0) = some e5) ⟨(), none, rfl, c0, r0, he5⟩ (fun i σ' H' hp => by obtain ⟨s6, y7, rfl, c0, r0, _⟩ := hp; exact r0) (fun i10 x9 u11 σ' H' hx8 r12 hp => ?_) (fun σ' H' hp => ?_)
    ·
      obtain ⟨s6, y7, rfl, c0, r0, hle5⟩ := hp
      obtain ⟨o13, hbe5, hore5⟩ := Mi.forR_go hle5 hx8
      unfold Mi.m_good_numbers_b1 at hbe5
      obtain ⟨_, rfl⟩ := r12
      refine g_name (σ' := [some v0, some (.int d1), some (.int d2), some (.int x9)]) rfl ?_
      refine q_if (ans_orB (ans_t (val_lt (val_var rfl) val_c)) (fun _ => (ans_t (val_gt (val_var rfl) (val_var rfl))))) (fun hb => ?_) (fun hb => ?_)
      ·
        replace hbe5 := Mi.ifT hb hbe5
        refine q_ret ?_
        refine c_val val_c ?_
        obtain rfl := Option.some.inj hbe5
        obtain rfl := Mi.or_inl hore5
        obtain rfl := Option.some.inj (Mi.orR_inl hm)
        exact hQ _ c0 
      replace hbe5 := Mi.ifF hb hbe5
      refine w_fall ?_
      refine w_nextJ ?_
      obtain rfl := Option.some.inj hbe5
      replace hore5 := Mi.or_inr hore5
      exact ⟨_, (some (.int x9)), rfl, c0, r0, hore5⟩
    obtain ⟨s6, y7, rfl, c0, r0, hle5⟩ := hp
    obtain rfl := Mi.forR_end hle5
    replace hm := Mi.orR_inr hm
    refine q_ret ?_
    refine c_val val_c ?_
    obtain rfl := Option.some.inj hm
    exact hQ _ c0 
abbrev s_good_depths : Stmt := topS 25
abbrev N_good_depths : List Str := ["depths"]
theorem sc_good_depths : FnScope ["depths"] ["depths"] (defScope s_good_depths) := ⟨rfl, rfl, rfl, by decide +kernel, rfl, by decide +kernel, by decide +kernel⟩
def sp_good_depths (K : PySem.W.Frag) : Sp := fun vs H Q _ => ∃ (v0 : V) (F0 : List Addr) (d0 : (List Int)) (r : Bool), vs = [v0] ∧ (yLst yInt).rep K H F0 v0 d0 ∧ Mi.m_good_depths d0 = some r ∧ ∀ H', Chg ([]) H H' → Q (.bl r) H'
theorem ok_good_depths (B : Bi mg) (CN : Cs K mg) (D : Dfn K mg "good_depths" s_good_depths) (C_good_numbers : Cal P w K mg "good_numbers" ["numbers", "most", "greatest"] 1 (sp_good_numbers K)) : Cal P w K mg "good_depths" ["depths"] 2 (sp_good_depths K) := by
  obtain ⟨f, fd, F, g⟩ := D.ex
  refine ⟨f, fd, g, F.kp, bindsF F (fun _ _ _ _ _ _ us hl => match us, hl with | [_], _ => rfl), fun base => F.ok sc_good_depths (fun vs H Q E h => ?_) (fun cdv A outer s H0 vs Q E hr h => ?_)⟩
  · obtain ⟨v0, F0, d0, r, rfl, r0, hm, hQ⟩ := h; rfl
  ·
    obtain ⟨v0, F0, d0, r, rfl, r0, hm, hQ⟩ := h
    refine ⟨_, pss_cons (ps_ret (pe_cc C_good_numbers hr (pa_cons (pv 0) (pa_cons (pe_glob (v := .int 12) (by rfl) CN.c_MOST_PLACES.choose_spec ⟨_, rfl⟩) (pa_cons (pe_glob (v := .int 99) (by rfl) CN.c_GREATEST_DEPTH.choose_spec ⟨_, rfl⟩) pa_nil))))) pss_nil, ?_⟩
    have c0 : Chg ([] : List Addr) H0 H0 := Chg.refl H0
    unfold Mi.m_good_depths at hm
    refine q_ret ?_
    refine w_call ?_
    refine w_args (va_cons (val_var rfl) (va_cons val_c (va_cons val_c va_nil))) ?_
    obtain ⟨q2, hq2, hm⟩ := Mi.bnd hm
    refine ⟨v0, F0, d0, (12 : Int), (99 : Int), q2, rfl, r0, hq2, fun H4 c3  => ?_⟩
    have r0 := Ty.ex r0 c3
    have c0 := c0.trans c3.none
    obtain rfl := Option.some.inj hm
    exact hQ _ c0 
abbrev s_good_lanes : Stmt := topS 26
abbrev N_good_lanes : List Str := ["lanes", "size", "known", "one", "other", "low", "high"]
theorem sc_good_lanes : FnScope ["lanes", "size", "known", "one", "other", "low", "high"] ["lanes", "size"] (defScope s_good_lanes) := ⟨rfl, rfl, rfl, by decide +kernel, rfl, by decide +kernel, by decide +kernel⟩
def sp_good_lanes (K : PySem.W.Frag) : Sp := fun vs H Q _ => ∃ (v0 : V) (F0 : List Addr) (d0 : (List (Int × Int))) (d1 : Int) (r : Bool), vs = [v0, (.int d1)] ∧ (yLst (yTup (sCons yInt (sOne yInt)))).rep K H F0 v0 d0 ∧ Mi.m_good_lanes d0 d1 = some r ∧ ∀ H', Chg ([]) H H' → Q (.bl r) H'
theorem ok_good_lanes (B : Bi mg) (CN : Cs K mg) (D : Dfn K mg "good_lanes" s_good_lanes)  : Cal P w K mg "good_lanes" ["lanes", "size"] 1 (sp_good_lanes K) := by
  obtain ⟨f, fd, F, g⟩ := D.ex
  refine ⟨f, fd, g, F.kp, bindsF F (fun _ _ _ _ _ _ us hl => match us, hl with | [_, _], _ => rfl), fun base => F.ok sc_good_lanes (fun vs H Q E h => ?_) (fun cdv A outer s H0 vs Q E hr h => ?_)⟩
  · obtain ⟨v0, F0, d0, d1, r, rfl, r0, hm, hQ⟩ := h; rfl
  ·
    obtain ⟨v0, F0, d0, d1, r, rfl, r0, hm, hQ⟩ := h
    refine ⟨_, pss_cons (ps_set (i := 2) sc_good_lanes.nd rfl (.inl rfl) (pe_callTy0 (cl_setP0 (P := P) (w := w)) (by rfl) B.set (by decide +kernel)))
      (pss_cons (ps_for PassesOwn.never rfl (pi_list (pv 0)) (pg_tupk (K := K) (n := 2) rfl (pgs_cons (pg_name (i := 3) sc_good_lanes.nd rfl (.inl rfl)) (pgs_cons (pg_name (i := 4) sc_good_lanes.nd rfl (.inl rfl)) pgs_nil))) (pss_cons (ps_set (i := 5) sc_good_lanes.nd rfl (.inl rfl) (pe_callB (cl_min2 rfl) (by rfl) B.min (by decide +kernel) (pa_cons (pv 3) (pa_cons (pv 4) pa_nil))))
      (pss_cons (ps_set (i := 6) sc_good_lanes.nd rfl (.inl rfl) (pe_callB (cl_max2 rfl) (by rfl) B.max (by decide +kernel) (pa_cons (pv 3) (pa_cons (pv 4) pa_nil))))
      (pss_cons (ps_if (PW.pt (pw_or (pt_cmpR op_lt (pv 5) pe_int (nomark _)) (pw_or (pt_cmpR op_ge (pv 6) (pv 1) (nomark _)) (pw_or (pt_cmpR op_eq (pv 5) (pv 6) (nomark _)) (pw_or1 (pt_cmpR (op_inP (K := K) (P := P) (w := w) hr.units) (pe_tup (pa_cons (pv 5) (pa_cons (pv 6) pa_nil))) (pv 2) (by rfl))))))) (pss_cons (ps_ret pe_bl) pss_nil) (pss_nil))
      (pss_cons (ps_expr (pe_saddP (K := K) (P := P) (w := w) hr.units (pv 2) (pa_cons (pe_tup (pa_cons (pv 5) (pa_cons (pv 6) pa_nil))) pa_nil)))
      (pss_nil))))))
      (pss_cons (ps_ret pe_bl) pss_nil)), ?_⟩
    have c0 : Chg ([] : List Addr) H0 H0 := Chg.refl H0
    unfold Mi.m_good_lanes at hm
    refine q_asg ?_
    refine w_cb ?_
    refine w_nil ?_
    refine w_setP0 (K := K) (P := P) (w := w) fun p3 H7 np6 c4 r5 => ?_
    have d8 : Dj F0 [p3] := Ty.nin r0 np6
    have n9 : ∀ a ∈ [p3], H0 a = none := one_fresh (c0.dom p3 np6)
    have r0 := Ty.ex r0 c4
    have c0 := c0.trans c4.none
    refine g_name (σ' := [some v0, some (.int d1), some (.ref p3), none, none, none, none]) rfl ?_
    refine q_for ?_
    refine w_iList ?_
    refine c_val (val_var rfl) ?_
    obtain ⟨e10, he10, hm⟩ := Mi.bnd hm
    refine l_lst r0 (fun i σ' H' => ∃ (s11 : (List (Int × Int))) (y12 : Option V) (y13 : Option V) (y14 : Option V) (y15 : Option V), σ' = [some v0, some (.int d1), some (.ref p3), y12, y13, y14, y15] ∧ Chg ([] : List Addr) H0 H' ∧ (yLst (yTup (sCons yInt (sOne yInt)))).rep K H' F0 v0 d0 ∧ (ySetP P w).rep K H' [p3] (.ref p3) s11 ∧ Mi.forR (Mi.m_good_lanes_b1 d1) s11 (List.drop i d0) = some e10) ⟨([] : List (Int × Int)), none, none, none, none, rfl, c0, r0, r5, he10⟩ (fun i σ' H' hp => by obtain ⟨s11, y12, y13, y14, y15, rfl, c0, r0, r5, _⟩ := hp; exact r0) (fun i18 x17 u19 σ' H' hx16 r20 hp => ?_) (fun σ' H' hp => ?_)
    ·
      obtain ⟨s11, y12, y13, y14, y15, rfl, c0, r0, r5, hle10⟩ := hp
      obtain ⟨o21, hbe10, hore10⟩ := Mi.forR_go hle10 hx16
      unfold Mi.m_good_lanes_b1 at hbe10
      refine g_tup2 r20 fun u22 u23 r24 r25 => ?_
      obtain ⟨_, rfl⟩ := r24
      obtain ⟨_, rfl⟩ := r25
      refine g_names (σ' := [some v0, some (.int d1), some (.ref p3), some (.int x17.1), some (.int x17.2), y14, y15]) rfl ?_
      obtain ⟨low26, hlow26, hbe10⟩ := Mi.letE hbe10
      refine q_setE (val_min2 (val_var rfl) (val_var rfl)) (congrArg V.int hlow26) (σ' := [some v0, some (.int d1), some (.ref p3), some (.int x17.1), some (.int x17.2), some (.int low26), y15]) rfl ?_
      obtain ⟨high27, hhigh27, hbe10⟩ := Mi.letE hbe10
      refine q_setE (val_max2 (val_var rfl) (val_var rfl)) (congrArg V.int hhigh27) (σ' := [some v0, some (.int d1), some (.ref p3), some (.int x17.1), some (.int x17.2), some (.int low26), some (.int high27)]) rfl ?_
      refine q_ifS ?_
      obtain ⟨b28, hb28, hbe10⟩ := Mi.bnd hbe10
      refine j_tt b28 (R := fun H' => Chg ([] : List Addr) H0 H' ∧ (yLst (yTup (sCons yInt (sOne yInt)))).rep K H' F0 v0 d0 ∧ (ySetP P w).rep K H' [p3] (.ref p3) s11) (fun Q' kq => ?_) (fun H' hj => ?_)
      ·
        refine w_or ?_
        refine c_ans (ans_t (val_lt (val_var rfl) val_c)) ?_
        refine c_if (fun hb => ?_) (fun hb => ?_)
        ·
          replace hb28 := Mi.ifT hb hb28
          obtain rfl := Option.some.inj hb28
          exact kq _ ⟨c0, r0, r5⟩
        replace hb28 := Mi.ifF hb hb28
        refine w_or ?_
        refine c_ans (ans_t (val_ge (val_var rfl) (val_var rfl))) ?_
        refine c_if (fun hb => ?_) (fun hb => ?_)
        ·
          replace hb28 := Mi.ifT hb hb28
          obtain rfl := Option.some.inj hb28
          exact kq _ ⟨c0, r0, r5⟩
        replace hb28 := Mi.ifF hb hb28
        refine w_or ?_
        refine c_ans (ans_t (val_eqI (val_var rfl) (val_var rfl))) ?_
        refine c_if (fun hb => ?_) (fun hb => ?_)
        ·
          replace hb28 := Mi.ifT hb hb28
          obtain rfl := Option.some.inj hb28
          exact kq _ ⟨c0, r0, r5⟩
        replace hb28 := Mi.ifF hb hb28
        refine w_test ?_
        refine w_op ?_
        refine w_tup ?_
        refine w_args (va_cons (val_var rfl) (va_cons (val_var rfl) va_nil)) ?_
        refine e_tup (K := K) (ty := (sCons yInt (sOne yInt))) (F := []) (d := (low26, high27)) (by exact Nat.le_of_ble_eq_true rfl) ⟨_, _, _, _, rfl, rfl, yInt_i, ⟨_, rfl, yInt_i⟩⟩ fun p29 H33 np32 c30 r31 => ?_
        have r0 := Ty.ex r0 c30
        have r5 := Ty.ex r5 c30
        have c0 := c0.trans c30.none
        refine c_val (val_var rfl) ?_
        refine w_inP r5 r31 ?_
        refine ⟨_, rfl, ?_⟩
        obtain rfl := Option.some.inj hb28
        exact kq _ ⟨c0, r0, r5⟩
      obtain ⟨c0, r0, r5⟩ := hj
      refine c_if (fun hb => ?_) (fun hb => ?_)
      ·
        replace hbe10 := Mi.ifT hb hbe10
        refine q_ret ?_
        refine c_val val_c ?_
        obtain rfl := Option.some.inj hbe10
        obtain rfl := Mi.or_inl hore10
        obtain rfl := Option.some.inj (Mi.orR_inl hm)
        exact hQ _ c0 
      replace hbe10 := Mi.ifF hb hbe10
      refine w_fall ?_
      refine q_drop (w_badd (c_val (val_var rfl) ⟨tyv_setP r5, ?_⟩))
      refine w_cons ?_
      refine w_tup ?_
      refine w_args (va_cons (val_var rfl) (va_cons (val_var rfl) va_nil)) ?_
      refine e_tup (K := K) (ty := (sCons yInt (sOne yInt))) (F := []) (d := (low26, high27)) (by exact Nat.le_of_ble_eq_true rfl) ⟨_, _, _, _, rfl, rfl, yInt_i, ⟨_, rfl, yInt_i⟩⟩ fun p34 H38 np37 c35 r36 => ?_
      have r0 := Ty.ex r0 c35
      have r5 := Ty.ex r5 c35
      have c0 := c0.trans c35.none
      refine w_nil ?_
      obtain ⟨x39, hx39, hbe10⟩ := Mi.bnd hbe10
      refine m_saddP r5 r36 hx39 fun H41 c40 r5 => ?_
      have r0 := Ty.chg r0 c40 d8
      have c0 := c0.join c40 (fun a h => .inr (n9 a h))
      refine w_nextJ ?_
      obtain rfl := Option.some.inj hbe10
      replace hore10 := Mi.or_inr hore10
      exact ⟨_, (some (.int x17.1)), (some (.int x17.2)), (some (.int low26)), (some (.int high27)), rfl, c0, r0, r5, hore10⟩
    obtain ⟨s11, y12, y13, y14, y15, rfl, c0, r0, r5, hle10⟩ := hp
    obtain rfl := Mi.forR_end hle10
    replace hm := Mi.orR_inr hm
    refine q_ret ?_
    refine c_val val_c ?_
    obtain rfl := Option.some.inj hm
    exact hQ _ c0 
abbrev s_good_tide : Stmt := topS 27
abbrev N_good_tide : List Str := ["tide"]
theorem sc_good_tide : FnScope ["tide"] ["tide"] (defScope s_good_tide) := ⟨rfl, rfl, rfl, by decide +kernel, rfl, by decide +kernel, by decide +kernel⟩
def sp_good_tide (K : PySem.W.Frag) : Sp := fun vs H Q _ => ∃ (v0 : V) (F0 : List Addr) (d0 : (List Int)) (r : Bool), vs = [v0] ∧ (yLst yInt).rep K H F0 v0 d0 ∧ Mi.m_good_tide d0 = some r ∧ ∀ H', Chg ([]) H H' → Q (.bl r) H'
theorem ok_good_tide (B : Bi mg) (CN : Cs K mg) (D : Dfn K mg "good_tide" s_good_tide) (C_good_numbers : Cal P w K mg "good_numbers" ["numbers", "most", "greatest"] 1 (sp_good_numbers K)) : Cal P w K mg "good_tide" ["tide"] 2 (sp_good_tide K) := by
  obtain ⟨f, fd, F, g⟩ := D.ex
  refine ⟨f, fd, g, F.kp, bindsF F (fun _ _ _ _ _ _ us hl => match us, hl with | [_], _ => rfl), fun base => F.ok sc_good_tide (fun vs H Q E h => ?_) (fun cdv A outer s H0 vs Q E hr h => ?_)⟩
  · obtain ⟨v0, F0, d0, r, rfl, r0, hm, hQ⟩ := h; rfl
  ·
    obtain ⟨v0, F0, d0, r, rfl, r0, hm, hQ⟩ := h
    refine ⟨_, pss_cons (ps_ret (pe_cc C_good_numbers hr (pa_cons (pv 0) (pa_cons (pe_glob (v := .int 12) (by rfl) CN.c_MOST_TIDE_NUMBERS.choose_spec ⟨_, rfl⟩) (pa_cons (pe_glob (v := .int 20) (by rfl) CN.c_GREATEST_TIDE.choose_spec ⟨_, rfl⟩) pa_nil))))) pss_nil, ?_⟩
    have c0 : Chg ([] : List Addr) H0 H0 := Chg.refl H0
    unfold Mi.m_good_tide at hm
    refine q_ret ?_
    refine w_call ?_
    refine w_args (va_cons (val_var rfl) (va_cons val_c (va_cons val_c va_nil))) ?_
    obtain ⟨q2, hq2, hm⟩ := Mi.bnd hm
    refine ⟨v0, F0, d0, (12 : Int), (20 : Int), q2, rfl, r0, hq2, fun H4 c3  => ?_⟩
    have r0 := Ty.ex r0 c3
    have c0 := c0.trans c3.none
    obtain rfl := Option.some.inj hm
    exact hQ _ c0 
abbrev s_good_harbours : Stmt := topS 28
abbrev N_good_harbours : List Str := ["harbours", "size"]
theorem sc_good_harbours : FnScope ["harbours", "size"] ["harbours", "size"] (defScope s_good_harbours) := ⟨rfl, rfl, rfl, by decide +kernel, rfl, by decide +kernel, by decide +kernel⟩
def sp_good_harbours (K : PySem.W.Frag) : Sp := fun vs H Q _ => ∃ (v0 : V) (F0 : List Addr) (d0 : (List Int)) (d1 : Int) (r : Bool), vs = [v0, (.int d1)] ∧ (yLst yInt).rep K H F0 v0 d0 ∧ Mi.m_good_harbours d0 d1 = some r ∧ ∀ H', Chg ([]) H H' → Q (.bl r) H'
theorem ok_good_harbours (B : Bi mg) (CN : Cs K mg) (D : Dfn K mg "good_harbours" s_good_harbours) (C_is_zone : Cal P w K mg "is_zone" ["zone", "size"] 1 (sp_is_zone K)) : Cal P w K mg "good_harbours" ["harbours", "size"] 2 (sp_good_harbours K) := by
  obtain ⟨f, fd, F, g⟩ := D.ex
  refine ⟨f, fd, g, F.kp, bindsF F (fun _ _ _ _ _ _ us hl => match us, hl with | [_, _], _ => rfl), fun base => F.ok sc_good_harbours (fun vs H Q E h => ?_) (fun cdv A outer s H0 vs Q E hr h => ?_)⟩
  · obtain ⟨v0, F0, d0, d1, r, rfl, r0, hm, hQ⟩ := h; rfl
  ·
    obtain ⟨v0, F0, d0, d1, r, rfl, r0, hm, hQ⟩ := h
    refine ⟨_, pss_cons (ps_ret (pe_cc C_is_zone hr (pa_cons (pv 0) (pa_cons (pv 1) pa_nil)))) pss_nil, ?_⟩
    have c0 : Chg ([] : List Addr) H0 H0 := Chg.refl H0
    unfold Mi.m_good_harbours at hm
    refine q_ret ?_
    refine w_call ?_
    refine w_args (va_cons (val_var rfl) (va_cons (val_var rfl) va_nil)) ?_
    obtain ⟨q3, hq3, hm⟩ := Mi.bnd hm
    refine Or.inl ⟨v0, F0, d0, d1, q3, rfl, r0, hq3, fun H5 c4  => ?_⟩
    have r0 := Ty.ex r0 c4
    have c0 := c0.trans c4.none
    obtain rfl := Option.some.inj hm
    exact hQ _ c0 
abbrev s_ordered_lanes : Stmt := topS 29
abbrev N_ordered_lanes : List Str := ["lanes", "one", "other"]
theorem sc_ordered_lanes : FnScope ["lanes", "one", "other"] ["lanes"] (defScope s_ordered_lanes) := ⟨rfl, rfl, rfl, by decide +kernel, rfl, by decide +kernel, by decide +kernel⟩
def sp_ordered_lanes (K : PySem.W.Frag) : Sp := fun vs H Q _ => ∃ (v0 : V) (F0 : List Addr) (d0 : (List (Int × Int))) (r : (List (Int × Int))), vs = [v0] ∧ (yLst (yTup (sCons yInt (sOne yInt)))).rep K H F0 v0 d0 ∧ Mi.m_ordered_lanes d0 = some r ∧ ∀ v H', Chg ([]) H H' → (yTupL (yTup (sCons yInt (sOne yInt)))).rep K H' [] v r → Q v H'
theorem ok_ordered_lanes (B : Bi mg) (CN : Cs K mg) (D : Dfn K mg "ordered_lanes" s_ordered_lanes)  : Cal P w K mg "ordered_lanes" ["lanes"] 1 (sp_ordered_lanes K) := by
  obtain ⟨f, fd, F, g⟩ := D.ex
  refine ⟨f, fd, g, F.kp, bindsF F (fun _ _ _ _ _ _ us hl => match us, hl with | [_], _ => rfl), fun base => F.ok sc_ordered_lanes (fun vs H Q E h => ?_) (fun cdv A outer s H0 vs Q E hr h => ?_)⟩
  · obtain ⟨v0, F0, d0, r, rfl, r0, hm, hQ⟩ := h; rfl
  ·
    obtain ⟨v0, F0, d0, r, rfl, r0, hm, hQ⟩ := h
    refine ⟨_, pss_cons (ps_ret (pe_callTy (cl_tuple (K := K)) (by rfl) B.tuple (by decide +kernel) (pa_cons (pe_callB (cl_sortP (K := K)) (by rfl) B.sorted (by decide +kernel) (pa_cons (pe_lc (own := [("one", 1), ("other", 2)]) rfl sc_ordered_lanes.nd (pi_list (pv 0)) (blkOk_by (own := [("one", 1), ("other", 2)]) (N := N_ordered_lanes) (sc := defScope s_ordered_lanes) (by decide +kernel)) (fun _ _ _ _ _ => (pg_tupk (K := K) (n := 2) rfl (pgs_cons (pg_name (i := 1) sc_ordered_lanes.nd rfl (.inl rfl)) (pgs_cons (pg_name (i := 2) sc_ordered_lanes.nd rfl (.inl rfl)) pgs_nil)))) (fun _ _ _ _ _ => pts_nil) (fun _ _ _ _ _ => (pe_tup (pa_cons (pe_callB (cl_min2 rfl) (by rfl) B.min (by decide +kernel) (pa_cons (pv 1) (pa_cons (pv 2) pa_nil))) (pa_cons (pe_callB (cl_max2 rfl) (by rfl) B.max (by decide +kernel) (pa_cons (pv 1) (pa_cons (pv 2) pa_nil))) pa_nil))))) pa_nil)) pa_nil))) pss_nil, ?_⟩
    have c0 : Chg ([] : List Addr) H0 H0 := Chg.refl H0
    unfold Mi.m_ordered_lanes at hm
    refine q_ret ?_
    refine w_cb ?_
    refine w_cons ?_
    refine w_cb ?_
    refine w_cons ?_
    refine w_lc ?_
    refine w_iList ?_
    refine c_val (val_var rfl) ?_
    obtain ⟨e2, he2, hm⟩ := Mi.bnd hm
    refine kc_lst (K := K) (τ := (yTup (sCons yInt (sOne yInt)))) r0 (fun D4 i H' => ∃ (s3 : (List (Int × Int))), Chg ([] : List Addr) H0 H' ∧ (yLst (yTup (sCons yInt (sOne yInt)))).rep K H' F0 v0 d0 ∧ (yLst (yTup (sCons yInt (sOne yInt)))).rep K H' [D4] (.ref D4) s3 ∧ Dj F0 [D4] ∧ (∀ a ∈ [D4], H0 a = none) ∧ Mi.forN (Mi.m_ordered_lanes_b1) s3 (List.drop i d0) = some e2) (fun D4 H11 np10 c9 r5 => ⟨([] : (List (Int × Int))), c0.trans c9.none, (Ty.ex r0 c9), r5, Ty.nin r0 np10, one_fresh (c0.dom D4 np10), he2⟩) (fun D4 i H' hp => by obtain ⟨s3, c0, r0, r5, d6, n8, _⟩ := hp; exact r0) (fun D4 i14 x13 u16 H15 hx12 r17 hp => ?_) (fun D4 H' np10 hp => ?_)
    ·
      obtain ⟨s3, c0, r0, r5, d6, n8, hle2⟩ := hp
      obtain ⟨_, hbe2, hle2⟩ := Mi.forN_go hle2 hx12
      unfold Mi.m_ordered_lanes_b1 at hbe2
      refine g_tup2 r17 fun u22 u23 r24 r25 => ?_
      obtain ⟨_, rfl⟩ := r24
      obtain ⟨_, rfl⟩ := r25
      refine ⟨rfl, ?_⟩
      refine st_eqT (σ' := [some v0, some (.int x13.1), some (.int x13.2)]) rfl ?_
      refine w_yes ?_
      refine iteT ?_
      refine w_tup ?_
      refine w_args (va_cons (val_min2 (val_var rfl) (val_var rfl)) (va_cons (val_max2 (val_var rfl) (val_var rfl)) va_nil)) ?_
      refine e_tup (K := K) (ty := (sCons yInt (sOne yInt))) (F := []) (d := ((min x13.1 x13.2), (max x13.1 x13.2))) (by exact Nat.le_of_ble_eq_true rfl) ⟨_, _, _, _, rfl, rfl, yInt_i, ⟨_, rfl, yInt_i⟩⟩ fun p26 H30 np29 c27 r28 => ?_
      have r0 := Ty.ex r0 c27
      have r5 := Ty.ex r5 c27
      have c0 := c0.trans c27.none
      obtain ⟨x31, hx31, hbe2⟩ := Mi.bnd hbe2
      refine e_app r5 r28 hx31 fun H33 c32 r5 => ?_
      have r0 := Ty.chg r0 c32 d6
      have c0 := c0.join c32 (fun a h => .inr (n8 a h))
      obtain rfl := Option.some.inj hbe2
      exact ⟨x31, c0, r0, r5, d6, n8, hle2⟩
    obtain ⟨s3, c0, r0, r5, d6, n8, hle2⟩ := hp
    obtain rfl := Mi.forN_end hle2
    refine w_nil ?_
    refine w_sortedP r5 fun p34 H38 np37 c35 r36 => ?_
    have d39 : Dj F0 [p34] := Ty.nin r0 np37
    have d40 : Dj [D4] [p34] := Ty.nin r5 np37
    have n41 : ∀ a ∈ [p34], H0 a = none := one_fresh (c0.dom p34 np37)
    have r0 := Ty.ex r0 c35
    have r5 := Ty.ex r5 c35
    have c0 := c0.trans c35.none
    refine w_nil ?_
    refine w_tupleL r36 fun v42 H43 c44 r45 => ?_
    have r0 := Ty.ex r0 c44
    have r36 := Ty.ex r36 c44
    have c0 := c0.trans c44.none
    obtain rfl := Option.some.inj hm
    exact hQ _ _ c0 r45 
abbrev s_joined_places : Stmt := topS 30
abbrev N_joined_places : List Str := ["size", "lanes", "rows", "low", "high", "place", "row"]
theorem sc_joined_places : FnScope ["size", "lanes", "rows", "low", "high", "place", "row"] ["size", "lanes"] (defScope s_joined_places) := ⟨rfl, rfl, rfl, by decide +kernel, rfl, by decide +kernel, by decide +kernel⟩
def sp_joined_places (K : PySem.W.Frag) : Sp := fun vs H Q _ => ∃ (d0 : Int) (v1 : V) (d1 : (List (Int × Int))) (r : (List (List Int))), vs = [(.int d0), v1] ∧ (yTupL (yTup (sCons yInt (sOne yInt)))).rep K H [] v1 d1 ∧ Mi.m_joined_places d0 d1 = some r ∧ ∀ v H', Chg ([]) H H' → (yTupL (yTupL yInt)).rep K H' [] v r → Q v H'
theorem ok_joined_places (B : Bi mg) (CN : Cs K mg) (D : Dfn K mg "joined_places" s_joined_places)  : Cal P w K mg "joined_places" ["size", "lanes"] 1 (sp_joined_places K) := by
  obtain ⟨f, fd, F, g⟩ := D.ex
  refine ⟨f, fd, g, F.kp, bindsF F (fun _ _ _ _ _ _ us hl => match us, hl with | [_, _], _ => rfl), fun base => F.ok sc_joined_places (fun vs H Q E h => ?_) (fun cdv A outer s H0 vs Q E hr h => ?_)⟩
  · obtain ⟨d0, v1, d1, r, rfl, r1, hm, hQ⟩ := h; rfl
  ·
    obtain ⟨d0, v1, d1, r, rfl, r1, hm, hQ⟩ := h
    refine ⟨_, pss_cons (ps_setLc (i := 2) (own := [("place", 5)]) rfl sc_joined_places.nd rfl rfl (sw_true rfl rfl rfl (by decide +kernel)) (pi_range1 (by rfl) B.range (pa_cons (pv 0) pa_nil)) (blkOk_by (own := [("place", 5)]) (N := N_joined_places) (sc := defScope s_joined_places) (by decide +kernel)) (fun _ _ _ _ _ => (pg_name (i := 5) sc_joined_places.nd rfl (.inl rfl))) (fun _ _ _ _ _ => pts_nil) (fun _ _ _ _ _ => (pe_lst pa_nil)))
      (pss_cons (ps_for PassesOwn.never rfl (pi_tup (pv 1)) (pg_tupk (K := K) (n := 2) rfl (pgs_cons (pg_name (i := 3) sc_joined_places.nd rfl (.inl rfl)) (pgs_cons (pg_name (i := 4) sc_joined_places.nd rfl (.inl rfl)) pgs_nil))) (pss_cons (ps_expr (pe_bm PySem.F.plainAttrs_list PySem.F.slot_list_append PySem.F.type_list_append mt_append (pe_ix (ix_l (K := K)) (pv 2) (pv 3) (fun _ _ => rfl)) (pa_cons (pv 4) pa_nil)))
      (pss_cons (ps_expr (pe_bm PySem.F.plainAttrs_list PySem.F.slot_list_append PySem.F.type_list_append mt_append (pe_ix (ix_l (K := K)) (pv 2) (pv 4) (fun _ _ => rfl)) (pa_cons (pv 3) pa_nil)))
      (pss_nil))))
      (pss_cons (ps_ret (pe_callTy (cl_tuple (K := K)) (by rfl) B.tuple (by decide +kernel) (pa_cons (pe_lc (own := [("row", 6)]) rfl sc_joined_places.nd (pi_list (pv 2)) (blkOk_by (own := [("row", 6)]) (N := N_joined_places) (sc := defScope s_joined_places) (by decide +kernel)) (fun _ _ _ _ _ => (pg_name (i := 6) sc_joined_places.nd rfl (.inl rfl))) (fun _ _ _ _ _ => pts_nil) (fun _ _ _ _ _ => (pe_callTy (cl_tuple (K := K)) (by rfl) B.tuple (by decide +kernel) (pa_cons (pv 6) pa_nil)))) pa_nil))) pss_nil)), ?_⟩
    have c0 : Chg ([] : List Addr) H0 H0 := Chg.refl H0
    unfold Mi.m_joined_places at hm
    refine q_asg ?_
    refine w_lc ?_
    refine w_iRng1 ?_
    refine w_args (va_cons (val_var rfl) va_nil) ?_
    obtain ⟨g3, hg3, hm⟩ := Mi.bnd hm
    obtain ⟨e4, he4, hm⟩ := Mi.bnd hm
    refine kc_rng1 (K := K) (τ := yInt) hg3 (fun D6 i H' => ∃ (s5 : (List (List Int))) (F8 : List Addr), Chg ([] : List Addr) H0 H' ∧ (yTupL (yTup (sCons yInt (sOne yInt)))).rep K H' [] v1 d1 ∧ (yOwn (yLst yInt)).rep K H' F8 (.ref D6) s5 ∧ (∀ a ∈ F8, H0 a = none) ∧ Mi.forN (Mi.m_joined_places_b1) s5 (List.drop i g3) = some e4) (fun D6 H13 np12 c11 r7 => ⟨([] : (List (List Int))), [D6], c0.trans c11.none, (Ty.fz r1 c11), own_nil r7, one_fresh (c0.dom D6 np12), he4⟩) (fun D6 i16 x15 H17 hx14 hp => ?_) (fun D6 H' np12 hp => ?_)
    ·
      obtain ⟨s5, F8, c0, r1, r7, n10, hle4⟩ := hp
      obtain ⟨_, hbe4, hle4⟩ := Mi.forN_go hle4 hx14
      unfold Mi.m_joined_places_b1 at hbe4
      refine g_name (σ' := [some (.int d0), some v1, none, none, none, some (.int x15), none]) rfl ?_
      refine ⟨rfl, ?_⟩
      refine w_yes ?_
      refine iteT ?_
      refine w_lst ?_
      refine w_args va_nil ?_
      refine e_lst (K := K) (τ := yInt) (by exact Nat.le_of_ble_eq_true rfl) .nil fun p24 H28 np27 c25 r26 => ?_
      have d29 : Dj F8 [p24] := Ty.nin r7 np27
      have n30 : ∀ a ∈ [p24], H0 a = none := one_fresh (c0.dom p24 np27)
      have r1 := Ty.fz r1 c25
      have r7 := Ty.ex r7 c25
      have c0 := c0.trans c25.none
      obtain ⟨x31, hx31, hbe4⟩ := Mi.bnd hbe4
      refine e_appO r7 r26 (d29) (lst_nd r26) hx31 fun H35 F36 c34 r7 sa37 sb38 => ?_
      have r1 := Ty.fz r1 c34
      have r26 := Ty.chg r26 c34 d29.symm
      have c0 := c0.join c34 (fun a h => .inr (n10 a h))
      have n39 : ∀ a ∈ F36, H0 a = none := fresh_grow n10 n30 sb38
      obtain rfl := Option.some.inj hbe4
      exact ⟨x31, F36, c0, r1, r7, n39, hle4⟩
    obtain ⟨s5, F8, c0, r1, r7, n10, hle4⟩ := hp
    obtain rfl := Mi.forN_end hle4
    refine g_name (σ' := [some (.int d0), some v1, some (.ref D6), none, none, none, none]) rfl ?_
    refine q_for ?_
    refine w_iTup ?_
    refine c_val (val_var rfl) ?_
    obtain ⟨e40, he40, hm⟩ := Mi.bnd hm
    refine l_tup r1 (fun i σ' H' => ∃ (s41 : (List (List Int))) (y42 : Option V) (y43 : Option V), σ' = [some (.int d0), some v1, some (.ref D6), y42, y43, none, none] ∧ Chg ([] : List Addr) H0 H' ∧ (yTupL (yTup (sCons yInt (sOne yInt)))).rep K H' [] v1 d1 ∧ (yOwn (yLst yInt)).rep K H' F8 (.ref D6) s41 ∧ Mi.forN (Mi.m_joined_places_b2) s41 (List.drop i d1) = some e40) ⟨s5, none, none, rfl, c0, r1, r7, he40⟩ (fun i σ' H' hp => by obtain ⟨s41, y42, y43, rfl, c0, r1, r7, _⟩ := hp; exact r1) (fun i46 x45 u47 σ' H' hx44 r48 hp => ?_) (fun σ' H' hp => ?_)
    ·
      obtain ⟨s41, y42, y43, rfl, c0, r1, r7, hle40⟩ := hp
      obtain ⟨_, hbe40, hle40⟩ := Mi.forN_go hle40 hx44
      unfold Mi.m_joined_places_b2 at hbe40
      refine g_tup2 r48 fun u49 u50 r51 r52 => ?_
      obtain ⟨_, rfl⟩ := r51
      obtain ⟨_, rfl⟩ := r52
      refine g_names (σ' := [some (.int d0), some v1, some (.ref D6), some (.int x45.1), some (.int x45.2), none, none]) rfl ?_
      obtain ⟨x53, hx53, hbe40⟩ := Mi.bnd hbe40
      obtain ⟨x54, hx54, hbe40⟩ := Mi.bnd hbe40
      obtain ⟨u55, tu56, kx57, ku58, ka59⟩ := itm_O r7 hx53
      refine q_drop (w_bm (c_val (ku58 (val_var rfl) (val_var rfl)) ⟨tu56, w_args (va_cons (val_var rfl) va_nil) ?_⟩))
      refine ka59 yInt_i hx54 fun H61 c60 r7 => ?_
      have r1 := Ty.fz r1 c60
      have c0 := c0.join c60 (fun a h => .inr (n10 a h))
      obtain ⟨x62, hx62, hbe40⟩ := Mi.bnd hbe40
      obtain ⟨x63, hx63, hbe40⟩ := Mi.bnd hbe40
      obtain ⟨u64, tu65, kx66, ku67, ka68⟩ := itm_O r7 hx62
      refine q_drop (w_bm (c_val (ku67 (val_var rfl) (val_var rfl)) ⟨tu65, w_args (va_cons (val_var rfl) va_nil) ?_⟩))
      refine ka68 yInt_i hx63 fun H70 c69 r7 => ?_
      have r1 := Ty.fz r1 c69
      have c0 := c0.join c69 (fun a h => .inr (n10 a h))
      refine w_nextJ ?_
      obtain rfl := Option.some.inj hbe40
      exact ⟨_, (some (.int x45.1)), (some (.int x45.2)), rfl, c0, r1, r7, hle40⟩
    obtain ⟨s41, y42, y43, rfl, c0, r1, r7, hle40⟩ := hp
    obtain rfl := Mi.forN_end hle40
    refine q_ret ?_
    refine w_cb ?_
    refine w_cons ?_
    refine w_lc ?_
    refine w_iList ?_
    refine c_val (val_var rfl) ?_
    obtain ⟨e71, he71, hm⟩ := Mi.bnd hm
    refine kc_lsg (K := K) (τ := (yTupL yInt)) (own_lsg r7) (fun D73 i H' => ∃ (s72 : (List (List Int))), Chg ([] : List Addr) H0 H' ∧ (yTupL (yTup (sCons yInt (sOne yInt)))).rep K H' [] v1 d1 ∧ (yOwn (yLst yInt)).rep K H' F8 (.ref D6) s41 ∧ (yLst (yTupL yInt)).rep K H' [D73] (.ref D73) s72 ∧ Dj F8 [D73] ∧ (∀ a ∈ [D73], H0 a = none) ∧ Mi.forN (Mi.m_joined_places_b3) s72 (List.drop i s41) = some e71) (fun D73 H80 np79 c78 r74 => ⟨([] : (List (List Int))), c0.trans c78.none, (Ty.fz r1 c78), (Ty.ex r7 c78), r74, Ty.nin r7 np79, one_fresh (c0.dom D73 np79), he71⟩) (fun D73 i H' hp => by obtain ⟨s72, c0, r1, r7, r74, d75, n77, _⟩ := hp; exact (own_lsg r7)) (fun D73 i83 x82 u85 F87 H84 hx81 r86 su88 hp => ?_) (fun D73 H' np79 hp => ?_)
    ·
      obtain ⟨s72, c0, r1, r7, r74, d75, n77, hle71⟩ := hp
      obtain ⟨_, hbe71, hle71⟩ := Mi.forN_go hle71 hx81
      unfold Mi.m_joined_places_b3 at hbe71
      have d91 : Dj F87 [D73] := Dj.sub (d75) su88
      have n92 : ∀ a ∈ F87, H0 a = none := fun a h => n10 a (su88 a h)
      refine g_name (σ' := [some (.int d0), some v1, some (.ref D6), y42, y43, none, some u85]) rfl ?_
      refine ⟨rfl, ?_⟩
      refine w_yes ?_
      refine iteT ?_
      refine w_cb ?_
      refine w_args (va_cons (val_var rfl) va_nil) ?_
      refine w_tupleL r86 fun v93 H94 c95 r96 => ?_
      have r1 := Ty.fz r1 c95
      have r7 := Ty.ex r7 c95
      have r86 := Ty.ex r86 c95
      have r74 := Ty.ex r74 c95
      have c0 := c0.trans c95.none
      obtain ⟨x97, hx97, hbe71⟩ := Mi.bnd hbe71
      refine e_app r74 r96 hx97 fun H99 c98 r74 => ?_
      have r1 := Ty.fz r1 c98
      have r7 := Ty.chg r7 c98 d75
      have r86 := Ty.chg r86 c98 d91
      have c0 := c0.join c98 (fun a h => .inr (n77 a h))
      obtain rfl := Option.some.inj hbe71
      exact ⟨x97, c0, r1, r7, r74, d75, n77, hle71⟩
    obtain ⟨s72, c0, r1, r7, r74, d75, n77, hle71⟩ := hp
    obtain rfl := Mi.forN_end hle71
    refine w_nil ?_
    refine w_tupleL r74 fun v100 H101 c102 r103 => ?_
    have r1 := Ty.fz r1 c102
    have r7 := Ty.ex r7 c102
    have r74 := Ty.ex r74 c102
    have c0 := c0.trans c102.none
    obtain rfl := Option.some.inj hm
    exact hQ _ _ c0 r103 
abbrev s_Chart_init : Stmt := inClass (topS 31) 0
abbrev N_Chart_init : List Str := ["self", "depths", "lanes", "tide", "harbours"]
theorem sc_Chart_init : FnScope ["self", "depths", "lanes", "tide", "harbours"] ["self", "depths", "lanes", "tide", "harbours"] (defScope s_Chart_init) := ⟨rfl, rfl, rfl, by decide +kernel, rfl, by decide +kernel, by decide +kernel⟩
def sp_Chart_init (K : PySem.W.Frag) (C_Chart : Addr) : Sp := fun vs H Q _ => ∃ (x0 dx0 : Addr) (v1 : V) (F1 : List Addr) (d1 : (List Int)) (v2 : V) (F2 : List Addr) (d2 : (List (Int × Int))) (v3 : V) (F3 : List Addr) (d3 : (List Int)) (v4 : V) (F4 : List Addr) (d4 : (List Int)) (r : (Int × (List Int) × (List (Int × Int)) × (List Int) × (List Int) × (List (List Int)))), vs = [.ref x0, v1, v2, v3, v4] ∧ (yPart C_Chart dx0 []).rep K H [x0] (.ref x0) [] ∧ (yLst yInt).rep K H F1 v1 d1 ∧ (yLst (yTup (sCons yInt (sOne yInt)))).rep K H F2 v2 d2 ∧ (yLst yInt).rep K H F3 v3 d3 ∧ (yLst yInt).rep K H F4 v4 d4 ∧ Dj [x0] F1 ∧ Dj [x0] F2 ∧ Dj [x0] F3 ∧ Dj [x0] F4 ∧ Mi.m_Chart_init d1 d2 d3 d4 = some r ∧ ∀ H', Chg [x0] H H' → (yObj C_Chart nm_Chart ty_Chart).rep K H' [] (.ref x0) r → Q .non H'
theorem ok_Chart_init (B : Bi mg) (CN : Cs K mg) {C_Chart : Addr} (T_Chart : Tx K mg C_Chart "Chart" nm_Chart) (C_good_depths : Cal P w K mg "good_depths" ["depths"] 2 (sp_good_depths K)) (C_good_lanes : Cal P w K mg "good_lanes" ["lanes", "size"] 1 (sp_good_lanes K)) (C_good_tide : Cal P w K mg "good_tide" ["tide"] 2 (sp_good_tide K)) (C_good_harbours : Cal P w K mg "good_harbours" ["harbours", "size"] 2 (sp_good_harbours K)) (C_ordered_lanes : Cal P w K mg "ordered_lanes" ["lanes"] 1 (sp_ordered_lanes K)) (C_joined_places : Cal P w K mg "joined_places" ["size", "lanes"] 1 (sp_joined_places K)) (D : DfnI K C_Chart "Chart.__init__" s_Chart_init (kw_Chart K) ) : CalI P w K mg C_Chart "Chart.__init__" s_Chart_init (kw_Chart K) ["self", "depths", "lanes", "tide", "harbours"] 3 (sp_Chart_init K C_Chart) := by
  obtain ⟨f, fd, F, g⟩ := D.ex
  refine ⟨f, fd, g, F, fun base => okD F sc_Chart_init (fun vs H Q E h => ?_) (fun cdv A outer s H0 vs Q E hr h => ?_)⟩
  · obtain ⟨x0, dx0, v1, F1, d1, v2, F2, d2, v3, F3, d3, v4, F4, d4, r, rfl, rs, r1, r2, r3, r4, dd0_1, dd0_2, dd0_3, dd0_4, hm, hQ⟩ := h; rfl
  ·
    obtain ⟨x0, dx0, v1, F1, d1, v2, F2, d2, v3, F3, d3, v4, F4, d4, r, rfl, rs, r1, r2, r3, r4, dd0_1, dd0_2, dd0_3, dd0_4, hm, hQ⟩ := h
    refine ⟨_, pss_cons (ps_if (pt_not (pt_val (pe_cc C_good_depths hr (pa_cons (pv 1) pa_nil)))) (pss_cons ps_never pss_nil) (pss_nil))
      (pss_cons (ps_if (pt_not (pt_val (pe_cc C_good_lanes hr (pa_cons (pv 2) (pa_cons (pe_callB (cl_len (K := K)) (by rfl) B.len PySem.boot_len (pa_cons (pv 1) pa_nil)) pa_nil))))) (pss_cons ps_never pss_nil) (pss_nil))
      (pss_cons (ps_if (pt_not (pt_val (pe_cc C_good_tide hr (pa_cons (pv 3) pa_nil)))) (pss_cons ps_never pss_nil) (pss_nil))
      (pss_cons (ps_if (pt_not (pt_val (pe_cc C_good_harbours hr (pa_cons (pv 4) (pa_cons (pe_callB (cl_len (K := K)) (by rfl) B.len PySem.boot_len (pa_cons (pv 1) pa_nil)) pa_nil))))) (pss_cons ps_never pss_nil) (pss_nil))
      (pss_cons (ps_fld (pv 0) (pe_callB (cl_len (K := K)) (by rfl) B.len PySem.boot_len (pa_cons (pv 1) pa_nil)) rfl)
      (pss_cons (ps_fld (pv 0) (pe_callTy (cl_tuple (K := K)) (by rfl) B.tuple (by decide +kernel) (pa_cons (pv 1) pa_nil)) rfl)
      (pss_cons (ps_fld (pv 0) (pe_cc C_ordered_lanes hr (pa_cons (pv 2) pa_nil)) rfl)
      (pss_cons (ps_fld (pv 0) (pe_callTy (cl_tuple (K := K)) (by rfl) B.tuple (by decide +kernel) (pa_cons (pv 3) pa_nil)) rfl)
      (pss_cons (ps_fld (pv 0) (pe_callTy (cl_tuple (K := K)) (by rfl) B.tuple (by decide +kernel) (pa_cons (pe_callB (cl_sortedL (K := K)) (by rfl) B.sorted (by decide +kernel) (pa_cons (pv 4) pa_nil)) pa_nil)) rfl)
      (pss_cons (ps_fld (pv 0) (pe_cc C_joined_places hr (pa_cons (pe_fldk (K := K) (pv 0) (by rfl)) (pa_cons (pe_fldk (K := K) (pv 0) (by rfl)) pa_nil))) rfl)
      (pss_nil)))))))))), ?_⟩
    have c0 : Chg ([x0]) H0 H0 := Chg.refl H0
    unfold Mi.m_Chart_init at hm
    refine q_ifS ?_
    refine w_not ?_
    refine w_B ?_
    refine w_call ?_
    refine w_args (va_cons (val_var rfl) va_nil) ?_
    obtain ⟨q6, hq6, hm⟩ := Mi.bnd hm
    refine ⟨v1, F1, d1, q6, rfl, r1, hq6, fun H8 c7  => ?_⟩
    have rs := Ty.ex rs c7
    have r1 := Ty.ex r1 c7
    have r2 := Ty.ex r2 c7
    have r3 := Ty.ex r3 c7
    have r4 := Ty.ex r4 c7
    have c0 := c0.trans c7.none
    refine ⟨_, rfl, ?_⟩
    refine c_if (fun hb => ?_) (fun hb => ?_)
    ·
      replace hm := Mi.ifT hb hm
      cases hm
    replace hm := Mi.ifF hb hm
    refine w_fall ?_
    refine q_ifS ?_
    refine w_not ?_
    refine w_B ?_
    refine w_call ?_
    refine w_args (va_cons (val_var rfl) (va_cons (val_lenL r1 (val_var rfl)) va_nil)) ?_
    obtain ⟨q9, hq9, hm⟩ := Mi.bnd hm
    refine ⟨v2, F2, d2, (d1.length : Int), q9, rfl, r2, hq9, fun H11 c10  => ?_⟩
    have rs := Ty.ex rs c10
    have r1 := Ty.ex r1 c10
    have r2 := Ty.ex r2 c10
    have r3 := Ty.ex r3 c10
    have r4 := Ty.ex r4 c10
    have c0 := c0.trans c10.none
    refine ⟨_, rfl, ?_⟩
    refine c_if (fun hb => ?_) (fun hb => ?_)
    ·
      replace hm := Mi.ifT hb hm
      cases hm
    replace hm := Mi.ifF hb hm
    refine w_fall ?_
    refine q_ifS ?_
    refine w_not ?_
    refine w_B ?_
    refine w_call ?_
    refine w_args (va_cons (val_var rfl) va_nil) ?_
    obtain ⟨q12, hq12, hm⟩ := Mi.bnd hm
    refine ⟨v3, F3, d3, q12, rfl, r3, hq12, fun H14 c13  => ?_⟩
    have rs := Ty.ex rs c13
    have r1 := Ty.ex r1 c13
    have r2 := Ty.ex r2 c13
    have r3 := Ty.ex r3 c13
    have r4 := Ty.ex r4 c13
    have c0 := c0.trans c13.none
    refine ⟨_, rfl, ?_⟩
    refine c_if (fun hb => ?_) (fun hb => ?_)
    ·
      replace hm := Mi.ifT hb hm
      cases hm
    replace hm := Mi.ifF hb hm
    refine w_fall ?_
    refine q_ifS ?_
    refine w_not ?_
    refine w_B ?_
    refine w_call ?_
    refine w_args (va_cons (val_var rfl) (va_cons (val_lenL r1 (val_var rfl)) va_nil)) ?_
    obtain ⟨q15, hq15, hm⟩ := Mi.bnd hm
    refine ⟨v4, F4, d4, (d1.length : Int), q15, rfl, r4, hq15, fun H17 c16  => ?_⟩
    have rs := Ty.ex rs c16
    have r1 := Ty.ex r1 c16
    have r2 := Ty.ex r2 c16
    have r3 := Ty.ex r3 c16
    have r4 := Ty.ex r4 c16
    have c0 := c0.trans c16.none
    refine ⟨_, rfl, ?_⟩
    refine c_if (fun hb => ?_) (fun hb => ?_)
    ·
      replace hm := Mi.ifT hb hm
      cases hm
    replace hm := Mi.ifF hb hm
    refine w_fall ?_
    refine q_fld ?_
    refine c_val (val_lenL r1 (val_var rfl)) ?_
    refine c_val (val_var rfl) ?_
    refine m_fldP rs T_Chart.cls (T_Chart.na "size" (by decide +kernel)) (by decide +kernel) rfl (by decide) rfl fun H19 c18 rs => ?_
    have r1 := Ty.chg r1 c18 dd0_1.symm
    have r2 := Ty.chg r2 c18 dd0_2.symm
    have r3 := Ty.chg r3 c18 dd0_3.symm
    have r4 := Ty.chg r4 c18 dd0_4.symm
    have c0 := c0.join c18 (fun a h => .inl (h))
    have rs : (yPart C_Chart dx0 (["size"] : List Str)).rep K _ [x0] (.ref x0) [(.int (d1.length : Int))] := rs
    refine q_fld ?_
    refine w_cb ?_
    refine w_args (va_cons (val_var rfl) va_nil) ?_
    refine w_tupleL r1 fun v20 H21 c22 r23 => ?_
    have rs := Ty.ex rs c22
    have r1 := Ty.ex r1 c22
    have r2 := Ty.ex r2 c22
    have r3 := Ty.ex r3 c22
    have r4 := Ty.ex r4 c22
    have c0 := c0.trans c22.none
    refine c_val (val_var rfl) ?_
    refine m_fldP rs T_Chart.cls (T_Chart.na "depths" (by decide +kernel)) (by decide +kernel) rfl (by decide) rfl fun H25 c24 rs => ?_
    have r1 := Ty.chg r1 c24 dd0_1.symm
    have r2 := Ty.chg r2 c24 dd0_2.symm
    have r3 := Ty.chg r3 c24 dd0_3.symm
    have r4 := Ty.chg r4 c24 dd0_4.symm
    have r23 := Ty.fz r23 c24
    have c0 := c0.join c24 (fun a h => .inl (h))
    have rs : (yPart C_Chart dx0 (["size", "depths"] : List Str)).rep K _ [x0] (.ref x0) [(.int (d1.length : Int)), v20] := rs
    refine q_fld ?_
    refine w_call ?_
    refine w_args (va_cons (val_var rfl) va_nil) ?_
    obtain ⟨q26, hq26, hm⟩ := Mi.bnd hm
    refine ⟨v2, F2, d2, q26, rfl, r2, hq26, fun v29 H28 c27 r30  => ?_⟩
    have rs := Ty.ex rs c27
    have r1 := Ty.ex r1 c27
    have r2 := Ty.ex r2 c27
    have r3 := Ty.ex r3 c27
    have r4 := Ty.ex r4 c27
    have r23 := Ty.fz r23 c27
    have c0 := c0.trans c27.none
    refine c_val (val_var rfl) ?_
    refine m_fldP rs T_Chart.cls (T_Chart.na "lanes" (by decide +kernel)) (by decide +kernel) rfl (by decide) rfl fun H32 c31 rs => ?_
    have r1 := Ty.chg r1 c31 dd0_1.symm
    have r2 := Ty.chg r2 c31 dd0_2.symm
    have r3 := Ty.chg r3 c31 dd0_3.symm
    have r4 := Ty.chg r4 c31 dd0_4.symm
    have r23 := Ty.fz r23 c31
    have r30 := Ty.fz r30 c31
    have c0 := c0.join c31 (fun a h => .inl (h))
    have rs : (yPart C_Chart dx0 (["size", "depths", "lanes"] : List Str)).rep K _ [x0] (.ref x0) [(.int (d1.length : Int)), v20, v29] := rs
    refine q_fld ?_
    refine w_cb ?_
    refine w_args (va_cons (val_var rfl) va_nil) ?_
    refine w_tupleL r3 fun v33 H34 c35 r36 => ?_
    have rs := Ty.ex rs c35
    have r1 := Ty.ex r1 c35
    have r2 := Ty.ex r2 c35
    have r3 := Ty.ex r3 c35
    have r4 := Ty.ex r4 c35
    have r23 := Ty.fz r23 c35
    have r30 := Ty.fz r30 c35
    have c0 := c0.trans c35.none
    refine c_val (val_var rfl) ?_
    refine m_fldP rs T_Chart.cls (T_Chart.na "tide" (by decide +kernel)) (by decide +kernel) rfl (by decide) rfl fun H38 c37 rs => ?_
    have r1 := Ty.chg r1 c37 dd0_1.symm
    have r2 := Ty.chg r2 c37 dd0_2.symm
    have r3 := Ty.chg r3 c37 dd0_3.symm
    have r4 := Ty.chg r4 c37 dd0_4.symm
    have r23 := Ty.fz r23 c37
    have r30 := Ty.fz r30 c37
    have r36 := Ty.fz r36 c37
    have c0 := c0.join c37 (fun a h => .inl (h))
    have rs : (yPart C_Chart dx0 (["size", "depths", "lanes", "tide"] : List Str)).rep K _ [x0] (.ref x0) [(.int (d1.length : Int)), v20, v29, v33] := rs
    refine q_fld ?_
    refine w_cb ?_
    refine w_cons ?_
    refine w_cb ?_
    refine w_args (va_cons (val_var rfl) va_nil) ?_
    refine w_sortedL r4 fun p39 H43 np42 c40 r41 => ?_
    have d44 : Dj [x0] [p39] := Ty.nin rs np42
    have d45 : Dj F1 [p39] := Ty.nin r1 np42
    have d46 : Dj F2 [p39] := Ty.nin r2 np42
    have d47 : Dj F3 [p39] := Ty.nin r3 np42
    have d48 : Dj F4 [p39] := Ty.nin r4 np42
    have n49 : ∀ a ∈ [p39], H0 a = none := one_fresh (c0.dom p39 np42)
    have rs := Ty.ex rs c40
    have r1 := Ty.ex r1 c40
    have r2 := Ty.ex r2 c40
    have r3 := Ty.ex r3 c40
    have r4 := Ty.ex r4 c40
    have r23 := Ty.fz r23 c40
    have r30 := Ty.fz r30 c40
    have r36 := Ty.fz r36 c40
    have c0 := c0.trans c40.none
    refine w_nil ?_
    refine w_tupleL r41 fun v50 H51 c52 r53 => ?_
    have rs := Ty.ex rs c52
    have r1 := Ty.ex r1 c52
    have r2 := Ty.ex r2 c52
    have r3 := Ty.ex r3 c52
    have r4 := Ty.ex r4 c52
    have r23 := Ty.fz r23 c52
    have r30 := Ty.fz r30 c52
    have r36 := Ty.fz r36 c52
    have r41 := Ty.ex r41 c52
    have c0 := c0.trans c52.none
    refine c_val (val_var rfl) ?_
    refine m_fldP rs T_Chart.cls (T_Chart.na "harbours" (by decide +kernel)) (by decide +kernel) rfl (by decide) rfl fun H55 c54 rs => ?_
    have r1 := Ty.chg r1 c54 dd0_1.symm
    have r2 := Ty.chg r2 c54 dd0_2.symm
    have r3 := Ty.chg r3 c54 dd0_3.symm
    have r4 := Ty.chg r4 c54 dd0_4.symm
    have r23 := Ty.fz r23 c54
    have r30 := Ty.fz r30 c54
    have r36 := Ty.fz r36 c54
    have r53 := Ty.fz r53 c54
    have c0 := c0.join c54 (fun a h => .inl (h))
    have rs : (yPart C_Chart dx0 (["size", "depths", "lanes", "tide", "harbours"] : List Str)).rep K _ [x0] (.ref x0) [(.int (d1.length : Int)), v20, v29, v33, v50] := rs
    refine q_fld ?_
    refine w_call ?_
    refine w_args (va_cons (fld_part (n := 0) (by decide +kernel) rfl rfl T_Chart.cls (T_Chart.na "size" (by decide +kernel)) rs (val_var rfl)) (va_cons (fld_part (n := 2) (by decide +kernel) rfl rfl T_Chart.cls (T_Chart.na "lanes" (by decide +kernel)) rs (val_var rfl)) va_nil)) ?_
    obtain ⟨q56, hq56, hm⟩ := Mi.bnd hm
    refine ⟨(d1.length : Int), v29, q26, q56, rfl, r30, hq56, fun v59 H58 c57 r60  => ?_⟩
    have rs := Ty.ex rs c57
    have r1 := Ty.ex r1 c57
    have r2 := Ty.ex r2 c57
    have r3 := Ty.ex r3 c57
    have r4 := Ty.ex r4 c57
    have r23 := Ty.fz r23 c57
    have r30 := Ty.fz r30 c57
    have r36 := Ty.fz r36 c57
    have r53 := Ty.fz r53 c57
    have c0 := c0.trans c57.none
    refine c_val (val_var rfl) ?_
    refine m_fldE (ts := ty_Chart) (d := ((d1.length : Int), d1, q26, d3, (Mi.sortI d4), q56)) rs T_Chart.cls (T_Chart.na "joined" (by decide +kernel)) (by decide +kernel) rfl (by decide) rfl ⟨_, _, _, _, rfl, rfl, yInt_i, ⟨_, _, _, _, rfl, rfl, r23, ⟨_, _, _, _, rfl, rfl, r30, ⟨_, _, _, _, rfl, rfl, r36, ⟨_, _, _, _, rfl, rfl, r53, ⟨_, rfl, r60⟩⟩⟩⟩⟩⟩ fun H62 c61 rs => ?_
    have r1 := Ty.chg r1 c61 dd0_1.symm
    have r2 := Ty.chg r2 c61 dd0_2.symm
    have r3 := Ty.chg r3 c61 dd0_3.symm
    have r4 := Ty.chg r4 c61 dd0_4.symm
    have r23 := Ty.fz r23 c61
    have r30 := Ty.fz r30 c61
    have r36 := Ty.fz r36 c61
    have r53 := Ty.fz r53 c61
    have r60 := Ty.fz r60 c61
    have c0 := c0.join c61 (fun a h => .inl (h))
    refine w_next ?_
    obtain rfl := Option.some.inj hm
    exact hQ _ c0 rs
abbrev s_Chart_neighbours : Stmt := inClass (topS 31) 3
abbrev N_Chart_neighbours : List Str := ["self", "place"]
theorem sc_Chart_neighbours : FnScope ["self", "place"] ["self", "place"] (defScope s_Chart_neighbours) := ⟨rfl, rfl, rfl, by decide +kernel, rfl, by decide +kernel, by decide +kernel⟩
def sp_Chart_neighbours (K : PySem.W.Frag) (C_Chart : Addr) : Sp := fun vs H Q _ => ∃ (v0 : V) (d0 : (Int × (List Int) × (List (Int × Int)) × (List Int) × (List Int) × (List (List Int)))) (d1 : Int) (r : (List Int)), vs = [v0, (.int d1)] ∧ (yObj C_Chart nm_Chart ty_Chart).rep K H [] v0 d0 ∧ Mi.m_Chart_neighbours d0 d1 = some r ∧ ∀ v H' F, Chg ([]) H H' → (yLst yInt).rep K H' F v r → (∀ a ∈ F, H a = none) → Q v H'
theorem ok_Chart_neighbours (B : Bi mg) (CN : Cs K mg) {C_Chart : Addr} (T_Chart : Tx K mg C_Chart "Chart" nm_Chart) (D : DfnM K C_Chart "neighbours" "Chart.neighbours" s_Chart_neighbours) : CalM P w K mg C_Chart "neighbours" ["self", "place"] 1 (sp_Chart_neighbours K C_Chart) := by
  obtain ⟨f, fd, F, g⟩ := D.ex
  refine ⟨f, fd, g, bindsF F (fun _ _ _ _ _ _ us hl => match us, hl with | [_, _], _ => rfl), fun base => F.ok sc_Chart_neighbours (fun vs H Q E h => ?_) (fun cdv A outer s H0 vs Q E hr h => ?_)⟩
  · obtain ⟨v0, d0, d1, r, rfl, r0, hm, hQ⟩ := h; rfl
  ·
    obtain ⟨v0, d0, d1, r, rfl, r0, hm, hQ⟩ := h
    refine ⟨_, pss_cons (ps_ret (pe_callTy (cl_list (K := K)) (by rfl) B.list (by decide +kernel) (pa_cons (pe_ix (ix_t (K := K)) (pe_fldk (K := K) (pv 0) (by rfl)) (pv 1) (fun _ _ => rfl)) pa_nil))) pss_nil, ?_⟩
    have c0 : Chg ([] : List Addr) H0 H0 := Chg.refl H0
    unfold Mi.m_Chart_neighbours at hm
    refine q_ret ?_
    refine w_cb ?_
    obtain ⟨u3, r4, kx5, ku6⟩ := fld_obj (n := 5) (f := "joined") (atS (atS (atS (atS (atS at1))))) (by decide +kernel) rfl T_Chart.cls (T_Chart.na "joined" (by decide +kernel)) r0
    obtain ⟨x7, hx7, hm⟩ := Mi.bnd hm
    obtain ⟨u8, r9, ku10⟩ := itm_T r4 hx7
    refine w_args (va_cons (ku10 (ku6 (val_var rfl)) (val_var rfl)) va_nil) ?_
    refine w_listT r9 fun p11 H15 np14 c12 r13 => ?_
    have n16 : ∀ a ∈ [p11], H0 a = none := one_fresh (c0.dom p11 np14)
    have r0 := Ty.fz r0 c12
    have r9 := Ty.fz r9 c12
    have c0 := c0.trans c12.none
    obtain rfl := Option.some.inj hm
    exact hQ _ _ _ c0 r13 n16 
abbrev s_allowed_neighbours : Stmt := topS 7
abbrev N_allowed_neighbours : List Str := ["chart", "place", "allowed", "other", "%y"]
theorem sc_allowed_neighbours : GScope N_allowed_neighbours ["chart", "place", "allowed"] (defScope s_allowed_neighbours) := ⟨rfl, rfl, rfl, by decide +kernel, rfl, by decide +kernel, by decide +kernel⟩
def sp_allowed_neighbours (K : PySem.W.Frag) (C_Chart : Addr) : SpY := fun vs Hs n it => ∃ (v0 : V) (d0 : (Int × (List Int) × (List (Int × Int)) × (List Int) × (List Int) × (List (List Int)))) (d1 : Int) (v2 : V) (F2 : List Addr) (d2 : (List Bool)) (tot : (List Int)), vs = [v0, (.int d1), v2] ∧ (yObj C_Chart nm_Chart ty_Chart).rep K Hs [] v0 d0 ∧ (yLst yBool).rep K Hs F2 v2 d2 ∧ Mi.m_allowed_neighbours d0 d1 d2 tot = some () ∧ n = tot.length ∧ it = itY K yInt tot
theorem ok_allowed_neighbours (B : Bi mg) (CN : Cs K mg) (D : Dfn K mg "allowed_neighbours" s_allowed_neighbours) {C_Chart : Addr} (T_Chart : Tx K mg C_Chart "Chart" nm_Chart) (M_Chart_neighbours : CalM P w K mg C_Chart "neighbours" ["self", "place"] 1 (sp_Chart_neighbours K C_Chart)) : CalY P w K mg "allowed_neighbours" ["chart", "place", "allowed"] N_allowed_neighbours 4 2 (sp_allowed_neighbours K C_Chart) := by
  have hgh : ∀ y, N_allowed_neighbours[4]? = some y → ¬ Vis (defScope s_allowed_neighbours) y := fun y hy h => by
    obtain rfl := Option.some.inj hy
    rcases h with h | h | h <;> exact absurd h (by decide +kernel)
  refine calY_of D sc_allowed_neighbours (fun _ _ _ _ _ _ us hl => match us, hl with | [_, _, _], _ => rfl) (fun L f cdv => rfl) hgh (by decide) (fun base outer f cdv L Aw n it H0 vs hr h => ?_)
  obtain ⟨v0, d0, d1, v2, F2, d2, tot, rfl, r0, r2, hm, rfl, rfl⟩ := h
  have gok : ∀ g0, GGh (GG P w K mg base outer N_allowed_neighbours (envOfC "allowed_neighbours" (defScope s_allowed_neighbours) L f cdv) Aw 4 tot.length (itY K yInt tot) H0 g0) := fun g0 => ⟨⟨rfl, rfl, rfl, rfl⟩, hgh⟩
  obtain ⟨fM_Chart_neighbours, fdM_Chart_neighbours, hM_Chart_neighbours, bM_Chart_neighbours, OM_Chart_neighbours⟩ := M_Chart_neighbours.ex
  refine ⟨_, fun g0 => gss_cons (gs_for (gok g0) (fun s Z => (pi_listK (K := K) (pe_meth (pv 0) T_Chart.cls hM_Chart_neighbours (OM_Chart_neighbours base) (hr.mono (by decide)) (fun s us _ hl => by rw [List.append_nil] at hl ⊢; exact bM_Chart_neighbours s us hl) .nil pass0 (pa_cons (pv 1) pa_nil)))) (fun s Z => (pg_name (i := 3) sc_allowed_neighbours.nd rfl (.inl rfl))) (keep_name (q := 4) (by decide)) (gss_cons (gs_if (gok g0) (fun s Z => (pt_val (pe_ix (ix_l (K := K)) (pv 2) (pv 3) (fun _ _ => rfl)))) (gss_cons (gs_yieldK 4 tot.length (itY K yInt tot) H0 (gok g0) (fun s Z => (pv 3)))
      (gss_nil)) (gss_nil))
      (gss_nil)))
      (gss_nil), ?_⟩
  have c0 : Chg [] H0 H0 := Chg.refl H0
  unfold Mi.m_allowed_neighbours at hm
  refine q_for ?_
  refine w_iList ?_
  refine w_meth ?_
  refine c_val (val_var rfl) ?_
  refine meth_obj r0 (by decide +kernel) ?_
  refine w_args (va_cons (val_var rfl) va_nil) ?_
  obtain ⟨q4, hq4, hm⟩ := Mi.bnd hm
  refine ⟨v0, d0, d1, q4, rfl, r0, hq4, fun v7 H6 F9 c5 r8 fr10  => ?_⟩
  have d11 : Dj F2 F9 := Ty.fresh r2 fr10
  have n12 : ∀ a ∈ F9, H0 a = none := fun a h => c0.dom a (fr10 a h)
  have r0 := Ty.fz r0 c5
  have r2 := Ty.ex r2 c5
  have c0 := c0.trans c5.none
  obtain ⟨e13, he13, hm⟩ := Mi.bnd hm
  refine l_lst r8 (fun i σ' H' => ∃ (s14 : Int) (y15 : Option V), σ' = [some v0, some (.int d1), some v2, y15, some (.int s14)] ∧ Chg ([] : List Addr) H0 H' ∧ (yObj C_Chart nm_Chart ty_Chart).rep K H' [] v0 d0 ∧ (yLst yBool).rep K H' F2 v2 d2 ∧ (yLst yInt).rep K H' F9 v7 q4 ∧ Mi.forN (Mi.m_allowed_neighbours_b1 d2 tot) s14 (List.drop i q4) = some e13) ⟨(0 : Int), none, rfl, c0, r0, r2, r8, he13⟩ (fun i σ' H' hp => by obtain ⟨s14, y15, rfl, c0, r0, r2, r8, _⟩ := hp; exact r8) (fun i18 x17 u19 σ' H' hx16 r20 hp => ?_) (fun σ' H' hp => ?_)
  ·
    obtain ⟨s14, y15, rfl, c0, r0, r2, r8, hle13⟩ := hp
    obtain ⟨_, hbe13, hle13⟩ := Mi.forN_go hle13 hx16
    unfold Mi.m_allowed_neighbours_b1 at hbe13
    obtain ⟨_, rfl⟩ := r20
    refine g_name (σ' := [some v0, some (.int d1), some v2, some (.int x17), some (.int s14)]) rfl ?_
    obtain ⟨s21, hs21, hbe13⟩ := Mi.bnd hbe13
    refine s_join (R := fun σ' H' => σ' = [some v0, some (.int d1), some v2, some (.int x17), some (.int s21)] ∧ Chg ([] : List Addr) H0 H' ∧ (yObj C_Chart nm_Chart ty_Chart).rep K H' [] v0 d0 ∧ (yLst yBool).rep K H' F2 v2 d2 ∧ (yLst yInt).rep K H' F9 v7 q4) (fun nx kx => ?_) (fun σ' H' hj => ?_)
    ·
      obtain ⟨x22, hx22, hs21⟩ := Mi.bnd hs21
      obtain ⟨u23, r24, ku25⟩ := itm_L r2 hx22
      obtain ⟨_, rfl⟩ := r24
      refine s_if (ans_B (ku25 (val_var rfl) (val_var rfl))) (fun hb => ?_) (fun hb => ?_)
      ·
        replace hs21 := Mi.ifT hb hs21
        refine q_yld ?_
        refine c_val (val_var rfl) ?_
        obtain ⟨y26, hy26, hs21⟩ := Mi.bnd hs21
        refine x_yld (τ := yInt) hy26 rfl yInt_i c0 (σ' := [some v0, some (.int d1), some v2, some (.int x17), some (.int y26)]) rfl (fun H28 c27 => ?_)
        have r0 := Ty.fz r0 c27
        have r2 := Ty.ex r2 c27
        have r8 := Ty.ex r8 c27
        have c0 := c0.trans c27.none
        refine w_nextJ ?_
        obtain rfl := Option.some.inj hs21
        exact kx _ _ ⟨rfl, c0, r0, r2, r8⟩
      ·
        replace hs21 := Mi.ifF hb hs21
        refine w_nextJ ?_
        obtain rfl := Option.some.inj hs21
        exact kx _ _ ⟨rfl, c0, r0, r2, r8⟩
    obtain ⟨rfl, c0, r0, r2, r8⟩ := hj
    refine w_nextJ ?_
    obtain rfl := Option.some.inj hbe13
    exact ⟨_, (some (.int x17)), rfl, c0, r0, r2, r8, hle13⟩
  obtain ⟨s14, y15, rfl, c0, r0, r2, r8, hle13⟩ := hp
  obtain rfl := Mi.forN_end hle13
  refine w_next ?_
  obtain ⟨z29, hz29, hm⟩ := Mi.bnd hm
  exact ⟨c0, y_end hz29⟩
abbrev s_flood : Stmt := topS 8
abbrev N_flood : List Str := ["chart", "start", "allowed", "counts", "front", "later", "place", "other"]
theorem sc_flood : FnScope ["chart", "start", "allowed", "counts", "front", "later", "place", "other"] ["chart", "start", "allowed"] (defScope s_flood) := ⟨rfl, rfl, rfl, by decide +kernel, rfl, by decide +kernel, by decide +kernel⟩
def sp_flood (K : PySem.W.Frag) (C_Chart : Addr) : Sp := fun vs H Q _ => ∃ (v0 : V) (d0 : (Int × (List Int) × (List (Int × Int)) × (List Int) × (List Int) × (List (List Int)))) (d1 : Int) (v2 : V) (F2 : List Addr) (d2 : (List Bool)) (r : (List (Option Int))), vs = [v0, (.int d1), v2] ∧ (yObj C_Chart nm_Chart ty_Chart).rep K H [] v0 d0 ∧ (yLst yBool).rep K H F2 v2 d2 ∧ Mi.m_flood d0 d1 d2 = some r ∧ ∀ v H' F, Chg ([]) H H' → (yLst (yOpt yInt)).rep K H' F v r → (∀ a ∈ F, H a = none) → Q v H'
theorem ok_flood (B : Bi mg) (CN : Cs K mg) (D : Dfn K mg "flood" s_flood) {C_Chart : Addr} (T_Chart : Tx K mg C_Chart "Chart" nm_Chart) (C_allowed_neighbours : CalY P w K mg "allowed_neighbours" ["chart", "place", "allowed"] N_allowed_neighbours 4 2 (sp_allowed_neighbours K C_Chart)) : Cal P w K mg "flood" ["chart", "start", "allowed"] 5 (sp_flood K C_Chart) := by
  obtain ⟨f, fd, F, g⟩ := D.ex
  refine ⟨f, fd, g, F.kp, bindsF F (fun _ _ _ _ _ _ us hl => match us, hl with | [_, _, _], _ => rfl), fun base => F.ok sc_flood (fun vs H Q E h => ?_) (fun cdv A outer s H0 vs Q E hr h => ?_)⟩
  · obtain ⟨v0, d0, d1, v2, F2, d2, r, rfl, r0, r2, hm, hQ⟩ := h; rfl
  ·
    obtain ⟨v0, d0, d1, v2, F2, d2, r, rfl, r0, r2, hm, hQ⟩ := h
    refine ⟨_, pss_cons (ps_set (i := 3) sc_flood.nd rfl (.inl rfl) (pe_op op_rep (pe_lst (pa_cons pe_non pa_nil)) (pe_fldk (K := K) (pv 0) (by rfl))))
      (pss_cons (ps_if (pt_not (pt_val (pe_ix (ix_l (K := K)) (pv 2) (pv 1) (fun _ _ => rfl)))) (pss_cons (ps_ret (pv 3)) pss_nil) (pss_nil))
      (pss_cons (ps_asg pe_int (pg_sub (pv 3) (pv 1) set_list))
      (pss_cons (ps_set (i := 4) sc_flood.nd rfl (.inl rfl) (pe_lst (pa_cons (pv 1) pa_nil)))
      (pss_cons (ps_while PassesOwn.never (pt_truK (K := K) (pv 4)) (pss_cons (ps_set (i := 5) sc_flood.nd rfl (.inl rfl) (pe_lst pa_nil))
      (pss_cons (ps_for PassesOwn.never rfl (pi_list (pv 4)) (pg_name (i := 6) sc_flood.nd rfl (.inl rfl)) (pss_cons (ps_forY C_allowed_neighbours hr (pa_cons (pv 0) (pa_cons (pv 6) (pa_cons (pv 2) pa_nil))) (fun vs H n it h => by obtain ⟨_, _, _, _, _, _, _, rfl, _⟩ := h; rfl) (fun s H => (pg_name (i := 7) sc_flood.nd rfl (.inl rfl))) (fun s H => pss_cons (ps_if (pt_cmpR op_isN1 (pe_ix (ix_l (K := K)) (pv 3) (pv 7) (fun _ _ => rfl)) pe_non (nomark _)) (pss_cons (ps_asg (pe_op op_add (pe_ix (ix_l (K := K)) (pv 3) (pv 6) (fun _ _ => rfl)) pe_int) (pg_sub (pv 3) (pv 7) set_list))
      (pss_cons (ps_expr (pe_bmK (K := K) PySem.F.plainAttrs_list PySem.F.slot_list_append PySem.F.type_list_append mt_append (pv 5) (pa_cons (pv 7) pa_nil)))
      (pss_nil))) (pss_nil))
      (pss_nil)))
      (pss_nil)))
      (pss_cons (ps_set (i := 4) sc_flood.nd rfl (.inl rfl) (pe_callTy (cl_list (K := K)) (by rfl) B.list (by decide +kernel) (pa_cons (pv 5) pa_nil)))
      (pss_nil)))))
      (pss_cons (ps_ret (pv 3)) pss_nil))))), ?_⟩
    have c0 : Chg ([] : List Addr) H0 H0 := Chg.refl H0
    unfold Mi.m_flood at hm
    refine q_asg ?_
    refine w_op ?_
    refine w_lst ?_
    refine w_args (va_cons val_c va_nil) ?_
    refine e_lst (K := K) (τ := (yOpt yInt)) (by exact Nat.le_of_ble_eq_true rfl) (.cons opt_n .nil) fun p4 H8 np7 c5 r6 => ?_
    have d9 : Dj F2 [p4] := Ty.nin r2 np7
    have n10 : ∀ a ∈ [p4], H0 a = none := one_fresh (c0.dom p4 np7)
    have r0 := Ty.fz r0 c5
    have r2 := Ty.ex r2 c5
    have c0 := c0.trans c5.none
    obtain ⟨u11, r12, kx13, ku14⟩ := fld_obj (n := 0) (f := "size") at0 (by decide +kernel) rfl T_Chart.cls (T_Chart.na "size" (by decide +kernel)) r0
    obtain ⟨_, rfl⟩ := r12
    refine c_val (ku14 (val_var rfl)) ?_
    obtain ⟨x15, hx15, hm⟩ := Mi.bnd hm
    refine w_rep r6 hx15 fun p16 H20 np19 c17 r18 => ?_
    have d21 : Dj F2 [p16] := Ty.nin r2 np19
    have d22 : Dj [p4] [p16] := Ty.nin r6 np19
    have n23 : ∀ a ∈ [p16], H0 a = none := one_fresh (c0.dom p16 np19)
    have r0 := Ty.fz r0 c17
    have r2 := Ty.ex r2 c17
    have r6 := Ty.ex r6 c17
    have c0 := c0.trans c17.none
    refine g_name (σ' := [some v0, some (.int d1), some v2, some (.ref p16), none, none, none, none]) rfl ?_
    obtain ⟨x24, hx24, hm⟩ := Mi.bnd hm
    obtain ⟨u25, r26, ku27⟩ := itm_L r2 hx24
    obtain ⟨_, rfl⟩ := r26
    refine q_if (ans_N (ans_B (ku27 (val_var rfl) (val_var rfl)))) (fun hb => ?_) (fun hb => ?_)
    ·
      replace hm := Mi.ifT hb hm
      refine q_ret ?_
      refine c_val (val_var rfl) ?_
      obtain rfl := Option.some.inj hm
      exact hQ _ _ _ c0 r18 n23 
    replace hm := Mi.ifF hb hm
    refine w_fall ?_
    refine q_asg ?_
    refine c_val val_c ?_
    refine w_gsub ?_
    refine c_val (val_var rfl) ?_
    refine c_val (val_var rfl) ?_
    obtain ⟨x28, hx28, hm⟩ := Mi.bnd hm
    refine m_set r18 (opt_i nn_int yInt_i) hx28 fun H30 c29 r18 => ?_
    have r0 := Ty.fz r0 c29
    have r2 := Ty.chg r2 c29 d21
    have c0 := c0.join c29 (fun a h => .inr (n23 a h))
    refine q_asg ?_
    refine w_lst ?_
    refine w_args (va_cons (val_var rfl) va_nil) ?_
    refine e_lst (K := K) (τ := yInt) (by exact Nat.le_of_ble_eq_true rfl) (.cons yInt_i .nil) fun p31 H35 np34 c32 r33 => ?_
    have d36 : Dj F2 [p31] := Ty.nin r2 np34
    have d37 : Dj [p16] [p31] := Ty.nin r18 np34
    have n38 : ∀ a ∈ [p31], H0 a = none := one_fresh (c0.dom p31 np34)
    have r0 := Ty.fz r0 c32
    have r2 := Ty.ex r2 c32
    have r18 := Ty.ex r18 c32
    have c0 := c0.trans c32.none
    refine g_name (σ' := [some v0, some (.int d1), some v2, some (.ref p16), some (.ref p31), none, none, none]) rfl ?_
    refine q_while ?_
    obtain ⟨e39, he39, hm⟩ := Mi.bnd hm
    refine l_while (fun m σ' H' => ∃ (s40 : ((List (Option Int)) × (List Int))) (y45 : Option V) (y46 : Option V) (y47 : Option V) (v41 : V) (F43 : List Addr), σ' = [some v0, some (.int d1), some v2, some (.ref p16), some v41, y45, y46, y47] ∧ Chg ([] : List Addr) H0 H' ∧ (yObj C_Chart nm_Chart ty_Chart).rep K H' [] v0 d0 ∧ (yLst yBool).rep K H' F2 v2 d2 ∧ (yLst (yOpt yInt)).rep K H' [p16] (.ref p16) s40.1 ∧ (yLst yInt).rep K H' F43 v41 s40.2 ∧ (∀ a ∈ F43, H0 a = none) ∧ Dj F43 F2 ∧ Dj F43 [p16] ∧ Mi.whileN (Mi.m_flood_c1) (Mi.m_flood_b1 d0 d2) m s40 = some e39) 1000 ⟨(x28, [d1]), none, none, none, (.ref p31), [p31], rfl, c0, r0, r2, r18, r33, n38, d36.symm, d37.symm, he39⟩ (fun m50 σ' H' hp => ?_)
    obtain ⟨s40, y45, y46, y47, v41, F43, rfl, c0, r0, r2, r18, r42, n44, d48, d49, hle39⟩ := hp
    obtain ⟨n51, b52, rfl, hce39, hle39⟩ := Mi.whileN_go hle39
    unfold Mi.m_flood_c1 at hce39
    obtain rfl := Option.some.inj hce39
    refine c_ans (ans_truL r42 (val_var rfl)) ?_
    refine c_if (fun hb => ?_) (fun hb => ?_)
    ·
      replace hle39 := Mi.ifT hb hle39
      obtain ⟨_, hbe39, hle39⟩ := Mi.bnd hle39
      unfold Mi.m_flood_b1 at hbe39
      refine ⟨fun σ' H' => ∃ (s40 : ((List (Option Int)) × (List Int))) (y45 : Option V) (y46 : Option V) (y47 : Option V) (v41 : V) (F43 : List Addr), σ' = [some v0, some (.int d1), some v2, some (.ref p16), some v41, y45, y46, y47] ∧ Chg ([] : List Addr) H0 H' ∧ (yObj C_Chart nm_Chart ty_Chart).rep K H' [] v0 d0 ∧ (yLst yBool).rep K H' F2 v2 d2 ∧ (yLst (yOpt yInt)).rep K H' [p16] (.ref p16) s40.1 ∧ (yLst yInt).rep K H' F43 v41 s40.2 ∧ (∀ a ∈ F43, H0 a = none) ∧ Dj F43 F2 ∧ Dj F43 [p16] ∧ Mi.whileN (Mi.m_flood_c1) (Mi.m_flood_b1 d0 d2) n51 s40 = some e39, fun σ2 H2 hq => ⟨n51, Nat.lt_succ_self _, hq⟩, ?_⟩
      refine q_asg ?_
      refine w_lst ?_
      refine w_args va_nil ?_
      refine e_lst (K := K) (τ := yInt) (by exact Nat.le_of_ble_eq_true rfl) .nil fun p53 H57 np56 c54 r55 => ?_
      have d58 : Dj F2 [p53] := Ty.nin r2 np56
      have d59 : Dj [p16] [p53] := Ty.nin r18 np56
      have d60 : Dj F43 [p53] := Ty.nin r42 np56
      have n61 : ∀ a ∈ [p53], H0 a = none := one_fresh (c0.dom p53 np56)
      have r0 := Ty.fz r0 c54
      have r2 := Ty.ex r2 c54
      have r18 := Ty.ex r18 c54
      have r42 := Ty.ex r42 c54
      have c0 := c0.trans c54.none
      refine g_name (σ' := [some v0, some (.int d1), some v2, some (.ref p16), some v41, some (.ref p53), y46, y47]) rfl ?_
      refine q_for ?_
      refine w_iList ?_
      refine c_val (val_var rfl) ?_
      obtain ⟨e62, he62, hbe39⟩ := Mi.bnd hbe39
      refine l_lst r42 (fun i σ' H' => ∃ (s63 : ((List (Option Int)) × (List Int))) (y64 : Option V) (y65 : Option V), σ' = [some v0, some (.int d1), some v2, some (.ref p16), some v41, some (.ref p53), y64, y65] ∧ Chg ([] : List Addr) H0 H' ∧ (yObj C_Chart nm_Chart ty_Chart).rep K H' [] v0 d0 ∧ (yLst yBool).rep K H' F2 v2 d2 ∧ (yLst (yOpt yInt)).rep K H' [p16] (.ref p16) s63.1 ∧ (yLst yInt).rep K H' F43 v41 s40.2 ∧ (yLst yInt).rep K H' [p53] (.ref p53) s63.2 ∧ Mi.forN (Mi.m_flood_b2 d0 d2) s63 (List.drop i s40.2) = some e62) ⟨(s40.1, ([] : (List Int))), y46, y47, rfl, c0, r0, r2, r18, r42, r55, he62⟩ (fun i σ' H' hp => by obtain ⟨s63, y64, y65, rfl, c0, r0, r2, r18, r42, r55, _⟩ := hp; exact r42) (fun i68 x67 u69 σ' H' hx66 r70 hp => ?_) (fun σ' H' hp => ?_)
      ·
        obtain ⟨s63, y64, y65, rfl, c0, r0, r2, r18, r42, r55, hle62⟩ := hp
        obtain ⟨_, hbe62, hle62⟩ := Mi.forN_go hle62 hx66
        unfold Mi.m_flood_b2 at hbe62
        obtain ⟨_, rfl⟩ := r70
        refine g_name (σ' := [some v0, some (.int d1), some v2, some (.ref p16), some v41, some (.ref p53), some (.int x67), y65]) rfl ?_
        refine q_forY ?_
        refine w_args (va_cons (val_var rfl) (va_cons (val_var rfl) (va_cons (val_var rfl) va_nil))) ?_
        obtain ⟨tt71, htt71, hbe62⟩ := Mi.bnd hbe62
        obtain ⟨z72, hz72, hbe62⟩ := Mi.bnd hbe62
        obtain ⟨e73, he73, hbe62⟩ := Mi.bnd hbe62
        refine l_ynm fun HL75 eL76 => ?_
        refine l_yld (τ := yInt) ex_int ([p16] ++ [p53]) (flt_app (flt_lst r18) (flt_lst r55)) ⟨v0, d0, x67, v2, F2, d2, tt71, rfl, (rep_hide r0 Dj.nil (flt_app (flt_lst r18) (flt_lst r55))), (rep_hide r2 (Dj.symm (Dj.app (Dj.symm (d21)) (Dj.symm d58))) (flt_app (flt_lst r18) (flt_lst r55))), hz72, rfl, rfl⟩ (fun i σ' H' => ∃ (s74 : ((List (Option Int)) × (List Int))) (y78 : Option V), σ' = [some v0, some (.int d1), some v2, some (.ref p16), some v41, some (.ref p53), some (.int x67), y78] ∧ Chg ([] : List Addr) H0 H' ∧ Chg ([p16] ++ [p53]) HL75 H' ∧ (yObj C_Chart nm_Chart ty_Chart).rep K H' [] v0 d0 ∧ (yLst yBool).rep K H' F2 v2 d2 ∧ (yLst (yOpt yInt)).rep K H' [p16] (.ref p16) s74.1 ∧ (yLst yInt).rep K H' F43 v41 s40.2 ∧ (yLst yInt).rep K H' [p53] (.ref p53) s74.2 ∧ Mi.forN (Mi.m_flood_b3 x67) s74 (List.drop i tt71) = some e73) ⟨(s63.1, s63.2), y65, rfl, c0, (eL76 ▸ Chg.refl _), r0, r2, r18, r42, r55, he73⟩ (fun i σ' H' hp => by obtain ⟨s74, y78, rfl, c0, cL77, r0, r2, r18, r42, r55, _⟩ := hp; exact ⟨eL76 ▸ cL77, (flt_app (flt_lst r18) (flt_lst r55))⟩) (fun i81 x80 u82 σ' H' H85 hx79 c84 r83 hp => ?_) (fun σ' H' HE cE hp => ?_)
        ·
          obtain ⟨s74, y78, rfl, c0, cL77, r0, r2, r18, r42, r55, hle73⟩ := hp
          obtain ⟨_, hbe73, hle73⟩ := Mi.forN_go hle73 hx79
          unfold Mi.m_flood_b3 at hbe73
          obtain ⟨_, rfl⟩ := r83
          have r0 := Ty.fz r0 c84
          have r2 := Ty.ex r2 c84
          have r18 := Ty.ex r18 c84
          have r42 := Ty.ex r42 c84
          have r55 := Ty.ex r55 c84
          have cL77 := cL77.trans c84.none
          have c0 := c0.trans c84.none
          refine g_name (σ' := [some v0, some (.int d1), some v2, some (.ref p16), some v41, some (.ref p53), some (.int x67), some (.int x80)]) rfl ?_
          obtain ⟨s86, hs86, hbe73⟩ := Mi.bnd hbe73
          refine s_join (R := fun σ' H' => σ' = [some v0, some (.int d1), some v2, some (.ref p16), some v41, some (.ref p53), some (.int x67), some (.int x80)] ∧ Chg ([] : List Addr) H0 H' ∧ Chg ([p16] ++ [p53]) HL75 H' ∧ (yObj C_Chart nm_Chart ty_Chart).rep K H' [] v0 d0 ∧ (yLst yBool).rep K H' F2 v2 d2 ∧ (yLst (yOpt yInt)).rep K H' [p16] (.ref p16) s86.1 ∧ (yLst yInt).rep K H' F43 v41 s40.2 ∧ (yLst yInt).rep K H' [p53] (.ref p53) s86.2) (fun nx kx => ?_) (fun σ' H' hj => ?_)
          ·
            obtain ⟨x87, hx87, hs86⟩ := Mi.bnd hs86
            obtain ⟨u88, r89, ku90⟩ := itm_L r18 hx87
            refine s_if (ans_t (val_isN r89 (ku90 (val_var rfl) (val_var rfl)))) (fun hb => ?_) (fun hb => ?_)
            ·
              replace hs86 := Mi.ifT hb hs86
              refine q_asg ?_
              refine w_op ?_
              obtain ⟨x91, hx91, hs86⟩ := Mi.bnd hs86
              obtain ⟨u92, r93, ku94⟩ := itm_L r18 hx91
              refine c_val (ku94 (val_var rfl) (val_var rfl)) ?_
              refine c_val val_c ?_
              obtain ⟨x95, hx95, hs86⟩ := Mi.bnd hs86
              obtain ⟨_, rfl⟩ := opt_int r93 hx95
              refine w_I0 ?_
              refine w_gsub ?_
              refine c_val (val_var rfl) ?_
              refine c_val (val_var rfl) ?_
              obtain ⟨x96, hx96, hs86⟩ := Mi.bnd hs86
              refine m_set r18 (opt_i nn_int yInt_i) hx96 fun H98 c97 r18 => ?_
              have r0 := Ty.fz r0 c97
              have r2 := Ty.chg r2 c97 d21
              have r42 := Ty.chg r42 c97 d49
              have r55 := Ty.chg r55 c97 d59.symm
              have cL77 := cL77.join c97 (fun a h => .inl (List.mem_append_left _ h))
              have c0 := c0.join c97 (fun a h => .inr (n23 a h))
              refine q_drop (w_bm (c_val (val_var rfl) ⟨tyv_lst r55, ?_⟩))
              refine w_args (va_cons (val_var rfl) va_nil) ?_
              obtain ⟨x99, hx99, hs86⟩ := Mi.bnd hs86
              refine m_app r55 yInt_i hx99 fun H101 c100 r55 => ?_
              have r0 := Ty.fz r0 c100
              have r2 := Ty.chg r2 c100 d58
              have r18 := Ty.chg r18 c100 d59
              have r42 := Ty.chg r42 c100 d60
              have cL77 := cL77.join c100 (fun a h => .inl (List.mem_append_right _ (h)))
              have c0 := c0.join c100 (fun a h => .inr (n61 a h))
              refine w_nextJ ?_
              obtain rfl := Option.some.inj hs86
              exact kx _ _ ⟨rfl, c0, cL77, r0, r2, r18, r42, r55⟩
            ·
              replace hs86 := Mi.ifF hb hs86
              refine w_nextJ ?_
              obtain rfl := Option.some.inj hs86
              exact kx _ _ ⟨rfl, c0, cL77, r0, r2, r18, r42, r55⟩
          obtain ⟨rfl, c0, cL77, r0, r2, r18, r42, r55⟩ := hj
          refine w_nextJ ?_
          obtain rfl := Option.some.inj hbe73
          exact ⟨_, (some (.int x80)), rfl, c0, cL77, r0, r2, r18, r42, r55, hle73⟩
        obtain ⟨s74, y78, rfl, c0, cL77, r0, r2, r18, r42, r55, hle73⟩ := hp
        have r0 := Ty.fz r0 cE
        have r2 := Ty.ex r2 cE
        have r18 := Ty.ex r18 cE
        have r42 := Ty.ex r42 cE
        have r55 := Ty.ex r55 cE
        have cL77 := cL77.trans cE.none
        have c0 := c0.trans cE.none
        obtain rfl := Mi.forN_end hle73
        refine w_nextJ ?_
        obtain rfl := Option.some.inj hbe62
        exact ⟨_, (some (.int x67)), y78, rfl, c0, r0, r2, r18, r42, r55, hle62⟩
      obtain ⟨s63, y64, y65, rfl, c0, r0, r2, r18, r42, r55, hle62⟩ := hp
      obtain rfl := Mi.forN_end hle62
      refine q_asg ?_
      refine w_cb ?_
      refine w_args (va_cons (val_var rfl) va_nil) ?_
      refine w_listL r55 fun p102 H106 np105 c103 r104 => ?_
      have d107 : Dj F2 [p102] := Ty.nin r2 np105
      have d108 : Dj [p16] [p102] := Ty.nin r18 np105
      have d109 : Dj F43 [p102] := Ty.nin r42 np105
      have d110 : Dj [p53] [p102] := Ty.nin r55 np105
      have n111 : ∀ a ∈ [p102], H0 a = none := one_fresh (c0.dom p102 np105)
      have r0 := Ty.fz r0 c103
      have r2 := Ty.ex r2 c103
      have r18 := Ty.ex r18 c103
      have r42 := Ty.ex r42 c103
      have r55 := Ty.ex r55 c103
      have c0 := c0.trans c103.none
      refine g_name (σ' := [some v0, some (.int d1), some v2, some (.ref p16), some (.ref p102), some (.ref p53), y64, y65]) rfl ?_
      refine w_nextJ ?_
      obtain rfl := Option.some.inj hbe39
      exact ⟨_, (some (.ref p53)), y64, y65, (.ref p102), [p102], rfl, c0, r0, r2, r18, r104, n111, d107.symm, d108.symm, hle39⟩
    replace hle39 := Mi.ifF hb hle39
    obtain rfl := Option.some.inj hle39
    refine q_ret ?_
    refine c_val (val_var rfl) ?_
    obtain rfl := Option.some.inj hm
    exact hQ _ _ _ c0 r18 n23 
abbrev s_sight_zone : Stmt := topS 16
abbrev N_sight_zone : List Str := ["chart", "light", "lanes", "place"]
theorem sc_sight_zone : FnScope ["chart", "light", "lanes", "place"] ["chart", "light"] (defScope s_sight_zone) := ⟨rfl, rfl, rfl, by decide +kernel, rfl, by decide +kernel, by decide +kernel⟩
def sp_sight_zone (K : PySem.W.Frag) (C_Light : Addr) (C_Chart : Addr) : Sp := fun vs H Q _ => ∃ (v0 : V) (d0 : (Int × (List Int) × (List (Int × Int)) × (List Int) × (List Int) × (List (List Int)))) (v1 : V) (d1 : (Int × (List Nat) × Int)) (r : (List Int)), vs = [v0, v1] ∧ (yObj C_Chart nm_Chart ty_Chart).rep K H [] v0 d0 ∧ (yObj C_Light nm_Light ty_Light).rep K H [] v1 d1 ∧ Mi.m_sight_zone d0 d1 = some r ∧ ∀ v H' F, Chg ([]) H H' → (yLst yInt).rep K H' F v r → (∀ a ∈ F, H a = none) → Q v H'
theorem ok_sight_zone (B : Bi mg) (CN : Cs K mg) (D : Dfn K mg "sight_zone" s_sight_zone) {C_Light : Addr} (T_Light : Tx K mg C_Light "Light" nm_Light) {C_Chart : Addr} (T_Chart : Tx K mg C_Chart "Chart" nm_Chart) (C_every_place : Cal P w K mg "every_place" ["chart"] 1 (sp_every_place K C_Chart)) (C_flood : Cal P w K mg "flood" ["chart", "start", "allowed"] 5 (sp_flood K C_Chart)) : Cal P w K mg "sight_zone" ["chart", "light"] 6 (sp_sight_zone K C_Light C_Chart) := by
  obtain ⟨f, fd, F, g⟩ := D.ex
  refine ⟨f, fd, g, F.kp, bindsF F (fun _ _ _ _ _ _ us hl => match us, hl with | [_, _], _ => rfl), fun base => F.ok sc_sight_zone (fun vs H Q E h => ?_) (fun cdv A outer s H0 vs Q E hr h => ?_)⟩
  · obtain ⟨v0, d0, v1, d1, r, rfl, r0, r1, hm, hQ⟩ := h; rfl
  ·
    obtain ⟨v0, d0, v1, d1, r, rfl, r0, r1, hm, hQ⟩ := h
    refine ⟨_, pss_cons (ps_set (i := 2) sc_sight_zone.nd rfl (.inr rfl) (pe_cc C_flood hr (pa_cons (pv 0) (pa_cons (pe_fldk (K := K) (pv 1) (by rfl)) (pa_cons (pe_cc C_every_place hr (pa_cons (pv 0) pa_nil)) pa_nil)))))
      (pss_cons (ps_ret (pe_lc (own := [("place", 3)]) rfl sc_sight_zone.nd (pi_range1 (by rfl) B.range (pa_cons (pe_fldk (K := K) (pv 0) (by rfl)) pa_nil)) (blkOk_by (own := [("place", 3)]) (N := N_sight_zone) (sc := defScope s_sight_zone) (by decide +kernel)) (fun _ _ _ _ _ => (pg_name (i := 3) sc_sight_zone.nd rfl (.inl rfl))) (fun _ _ _ _ _ => (pts_one (PW.pt (pw_and (pt_cmpR op_notN1 (pe_ix (ix_l (K := K)) (pv 2) (pv 3) (fun _ _ => rfl)) pe_non (nomark _)) (pw_and1 (pt_cmpR op_le (pe_ix (ix_l (K := K)) (pv 2) (pv 3) (fun _ _ => rfl)) (pe_fldk (K := K) (pv 1) (by rfl)) (nomark _))))))) (fun _ _ _ _ _ => (pv 3)))) pss_nil), ?_⟩
    have c0 : Chg ([] : List Addr) H0 H0 := Chg.refl H0
    unfold Mi.m_sight_zone at hm
    refine q_asg ?_
    refine w_call ?_
    refine w_cons ?_
    refine c_val (val_var rfl) ?_
    refine w_cons ?_
    obtain ⟨u3, r4, kx5, ku6⟩ := fld_obj (n := 0) (f := "place") at0 (by decide +kernel) rfl T_Light.cls (T_Light.na "place" (by decide +kernel)) r1
    obtain ⟨_, rfl⟩ := r4
    refine c_val (ku6 (val_var rfl)) ?_
    refine w_cons ?_
    refine w_call ?_
    refine w_args (va_cons (val_var rfl) va_nil) ?_
    obtain ⟨q7, hq7, hm⟩ := Mi.bnd hm
    refine ⟨v0, d0, q7, rfl, r0, hq7, fun v10 H9 F12 c8 r11 fr13  => ?_⟩
    have n14 : ∀ a ∈ F12, H0 a = none := fun a h => c0.dom a (fr13 a h)
    have r0 := Ty.fz r0 c8
    have r1 := Ty.fz r1 c8
    have c0 := c0.trans c8.none
    refine w_nil ?_
    obtain ⟨q15, hq15, hm⟩ := Mi.bnd hm
    refine ⟨v0, d0, d1.1, v10, F12, q7, q15, rfl, r0, r11, hq15, fun v18 H17 F20 c16 r19 fr21  => ?_⟩
    have n22 : ∀ a ∈ F20, H0 a = none := fun a h => c0.dom a (fr21 a h)
    have r0 := Ty.fz r0 c16
    have r1 := Ty.fz r1 c16
    have c0 := c0.trans c16.none
    refine g_name (σ' := [some v0, some v1, some v18, none]) rfl ?_
    refine q_ret ?_
    refine w_lc ?_
    refine w_iRng1 ?_
    obtain ⟨u23, r24, kx25, ku26⟩ := fld_obj (n := 0) (f := "size") at0 (by decide +kernel) rfl T_Chart.cls (T_Chart.na "size" (by decide +kernel)) r0
    obtain ⟨_, rfl⟩ := r24
    refine w_args (va_cons (ku26 (val_var rfl)) va_nil) ?_
    obtain ⟨g27, hg27, hm⟩ := Mi.bnd hm
    obtain ⟨e28, he28, hm⟩ := Mi.bnd hm
    refine kc_rng1 (K := K) (τ := yInt) hg27 (fun D30 i H' => ∃ (s29 : (List Int)), Chg ([] : List Addr) H0 H' ∧ (yObj C_Chart nm_Chart ty_Chart).rep K H' [] v0 d0 ∧ (yObj C_Light nm_Light ty_Light).rep K H' [] v1 d1 ∧ (yLst (yOpt yInt)).rep K H' F20 v18 q15 ∧ (yLst yInt).rep K H' [D30] (.ref D30) s29 ∧ Dj F20 [D30] ∧ (∀ a ∈ [D30], H0 a = none) ∧ Mi.forN (Mi.m_sight_zone_b1 d1 q15) s29 (List.drop i g27) = some e28) (fun D30 H37 np36 c35 r31 => ⟨([] : (List Int)), c0.trans c35.none, (Ty.fz r0 c35), (Ty.fz r1 c35), (Ty.ex r19 c35), r31, Ty.nin r19 np36, one_fresh (c0.dom D30 np36), he28⟩) (fun D30 i40 x39 H41 hx38 hp => ?_) (fun D30 H' np36 hp => ?_)
    ·
      obtain ⟨s29, c0, r0, r1, r19, r31, d32, n34, hle28⟩ := hp
      obtain ⟨_, hbe28, hle28⟩ := Mi.forN_go hle28 hx38
      unfold Mi.m_sight_zone_b1 at hbe28
      refine g_name (σ' := [some v0, some v1, some v18, some (.int x39)]) rfl ?_
      refine ⟨rfl, ?_⟩
      obtain ⟨x48, hx48, hbe28⟩ := Mi.bnd hbe28
      obtain ⟨u49, r50, ku51⟩ := itm_L r19 hx48
      obtain ⟨b62, hb62, hbe28⟩ := Mi.bnd hbe28
      refine c_ans (ans_andO (ans_t (val_notN r50 (ku51 (val_var rfl) (val_var rfl)))) hb62 (fun hs52 => by (obtain ⟨x53, hx53, hs52⟩ := Mi.bnd hs52; obtain ⟨u54, r55, ku56⟩ := itm_L r19 hx53; obtain ⟨u57, r58, kx59, ku60⟩ := fld_obj (n := 2) (f := "reach") (atS (atS at1)) (by decide +kernel) rfl T_Light.cls (T_Light.na "reach" (by decide +kernel)) r1; obtain ⟨_, rfl⟩ := r58; obtain ⟨x61, hx61, hs52⟩ := Mi.bnd hs52; obtain ⟨_, rfl⟩ := opt_int r55 hx61; cases hs52; exact (ans_t (val_le (ku56 (val_var rfl) (val_var rfl)) (ku60 (val_var rfl))))))) ?_
      refine c_if (fun hb => ?_) (fun hb => ?_)
      ·
        replace hbe28 := Mi.ifT hb hbe28
        refine c_val (val_var rfl) ?_
        obtain ⟨x63, hx63, hbe28⟩ := Mi.bnd hbe28
        refine e_app r31 yInt_i hx63 fun H65 c64 r31 => ?_
        have r0 := Ty.fz r0 c64
        have r1 := Ty.fz r1 c64
        have r19 := Ty.chg r19 c64 d32
        have c0 := c0.join c64 (fun a h => .inr (n34 a h))
        obtain rfl := Option.some.inj hbe28
        exact ⟨x63, c0, r0, r1, r19, r31, d32, n34, hle28⟩
      ·
        replace hbe28 := Mi.ifF hb hbe28
        obtain rfl := Option.some.inj hbe28
        exact ⟨s29, c0, r0, r1, r19, r31, d32, n34, hle28⟩
    obtain ⟨s29, c0, r0, r1, r19, r31, d32, n34, hle28⟩ := hp
    obtain rfl := Mi.forN_end hle28
    obtain rfl := Option.some.inj hm
    exact hQ _ _ _ c0 r31 n34 
abbrev s_l_hand : Stmt := topS 33
abbrev N_l_hand : List Str := ["_law_script", "_law_k", "_law_cell", "_law_rest"]
theorem sc_l_hand : FnScope ["_law_script", "_law_k", "_law_cell", "_law_rest"] ["_law_script", "_law_k"] (defScope s_l_hand) := ⟨rfl, rfl, rfl, by decide +kernel, rfl, by decide +kernel, by decide +kernel⟩
def sp_l_hand (K : PySem.W.Frag) : Sp := fun vs H Q _ => ∃ (v0 : V) (d0 : (List Int)) (d1 : Int) (r : (List Int)), vs = [v0, (.int d1)] ∧ yScr.rep K H [] v0 d0 ∧ Mi.m_l_hand d0 d1 = some r ∧ ∀ v H' F, Chg ([]) H H' → (yLst yInt).rep K H' F v r → (∀ a ∈ F, H a = none) → Q v H'
theorem ok_l_hand (B : Bi mg) (CN : Cs K mg) (D : Dfn K mg "_law_hand" s_l_hand)  : Cal P w K mg "_law_hand" ["_law_script", "_law_k"] 1 (sp_l_hand K) := by
  obtain ⟨f, fd, F, g⟩ := D.ex
  refine ⟨f, fd, g, F.kp, bindsF F (fun _ _ _ _ _ _ us hl => match us, hl with | [_, _], _ => rfl), fun base => F.ok sc_l_hand (fun vs H Q E h => ?_) (fun cdv A outer s H0 vs Q E hr h => ?_)⟩
  · obtain ⟨v0, d0, d1, r, rfl, r0, hm, hQ⟩ := h; rfl
  ·
    obtain ⟨v0, d0, d1, r, rfl, r0, hm, hQ⟩ := h
    refine ⟨_, pss_cons (ps_set (i := 2) sc_l_hand.nd rfl (.inl rfl) pe_int)
      (pss_cons (ps_if (pt_cmpR op_lt (pv 1) (pe_callB (cl_len (K := K)) (by rfl) B.len PySem.boot_len (pa_cons (pv 0) pa_nil)) (nomark _)) (pss_cons (ps_set (i := 2) sc_l_hand.nd rfl (.inl rfl) (pe_ix (ix_l (K := K)) (pv 0) (pv 1) (fun _ _ => rfl)))
      (pss_nil)) (pss_nil))
      (pss_cons (ps_if (pt_cmpR op_lt (pv 2) pe_int (nomark _)) (pss_cons (ps_set (i := 2) sc_l_hand.nd rfl (.inl rfl) (pe_op op_sub pe_int (pe_op op_mul pe_int (pv 2))))
      (pss_nil)) (pss_nil))
      (pss_cons (ps_set (i := 3) sc_l_hand.nd rfl (.inl rfl) pe_int)
      (pss_cons (ps_if (pt_cmpR op_ge (pv 2) (pe_op op_pow pe_int pe_int) (nomark _)) (pss_cons (ps_set (i := 3) sc_l_hand.nd rfl (.inl rfl) (pv 2))
      (pss_nil)) (pss_nil))
      (pss_cons (ps_ret (pe_lst (pa_cons (pv 3) (pa_cons (pe_op op_mod (pe_callTy cl_int (by rfl) B.int (by decide +kernel) (pa_cons (pe_op op_add (pe_op op_add (pv 2) (pe_op op_mul pe_int (pv 1))) pe_int) pa_nil)) pe_int) (pa_cons pe_int pa_nil))))) pss_nil))))), ?_⟩
    have c0 : Chg ([] : List Addr) H0 H0 := Chg.refl H0
    unfold Mi.m_l_hand at hm
    obtain ⟨cell3, hcell3, hm⟩ := Mi.letE hm
    refine q_setE val_c (congrArg V.int hcell3) (σ' := [some v0, some (.int d1), some (.int cell3), none]) rfl ?_
    obtain ⟨s4, hs4, hm⟩ := Mi.bnd hm
    refine s_join (R := fun σ' H' => σ' = [some v0, some (.int d1), some (.int s4), none] ∧ Chg ([] : List Addr) H0 H' ∧ yScr.rep K H' [] v0 d0) (fun nx kx => ?_) (fun σ' H' hj => ?_)
    ·
      refine s_if (ans_t (val_lt (val_var rfl) (val_lenS r0 (val_var rfl)))) (fun hb => ?_) (fun hb => ?_)
      ·
        replace hs4 := Mi.ifT hb hs4
        obtain ⟨x5, hx5, hs4⟩ := Mi.bnd hs4
        obtain ⟨cell6, hcell6, hs4⟩ := Mi.letE hs4
        refine q_setE (itm_S r0 hx5 (val_var rfl) (val_var rfl)) (congrArg V.int hcell6) (σ' := [some v0, some (.int d1), some (.int cell6), none]) rfl ?_
        refine w_nextJ ?_
        obtain rfl := Option.some.inj hs4
        exact kx _ _ ⟨rfl, c0, r0⟩
      ·
        replace hs4 := Mi.ifF hb hs4
        refine w_nextJ ?_
        obtain rfl := Option.some.inj hs4
        exact kx _ _ ⟨rfl, c0, r0⟩
    obtain ⟨rfl, c0, r0⟩ := hj
    obtain ⟨s7, hs7, hm⟩ := Mi.bnd hm
    refine s_join (R := fun σ' H' => σ' = [some v0, some (.int d1), some (.int s7), none] ∧ Chg ([] : List Addr) H0 H' ∧ yScr.rep K H' [] v0 d0) (fun nx kx => ?_) (fun σ' H' hj => ?_)
    ·
      refine s_if (ans_t (val_lt (val_var rfl) val_c)) (fun hb => ?_) (fun hb => ?_)
      ·
        replace hs7 := Mi.ifT hb hs7
        obtain ⟨cell8, hcell8, hs7⟩ := Mi.letE hs7
        refine q_setE (val_sub val_c (val_mulL val_c (val_var rfl) ⟨by decide, by decide⟩)) (congrArg V.int hcell8) (σ' := [some v0, some (.int d1), some (.int cell8), none]) rfl ?_
        refine w_nextJ ?_
        obtain rfl := Option.some.inj hs7
        exact kx _ _ ⟨rfl, c0, r0⟩
      ·
        replace hs7 := Mi.ifF hb hs7
        refine w_nextJ ?_
        obtain rfl := Option.some.inj hs7
        exact kx _ _ ⟨rfl, c0, r0⟩
    obtain ⟨rfl, c0, r0⟩ := hj
    obtain ⟨rest9, hrest9, hm⟩ := Mi.letE hm
    refine q_setE val_c (congrArg V.int hrest9) (σ' := [some v0, some (.int d1), some (.int s7), some (.int rest9)]) rfl ?_
    obtain ⟨s10, hs10, hm⟩ := Mi.bnd hm
    refine s_join (R := fun σ' H' => σ' = [some v0, some (.int d1), some (.int s7), some (.int s10)] ∧ Chg ([] : List Addr) H0 H' ∧ yScr.rep K H' [] v0 d0) (fun nx kx => ?_) (fun σ' H' hj => ?_)
    ·
      refine s_if (ans_t (val_ge (val_var rfl) (val_pow (n := 18) val_c val_c rfl (by decide) (by decide)))) (fun hb => ?_) (fun hb => ?_)
      ·
        replace hs10 := Mi.ifT hb hs10
        obtain ⟨rest11, hrest11, hs10⟩ := Mi.letE hs10
        refine q_setE (val_var rfl) (congrArg V.int hrest11) (σ' := [some v0, some (.int d1), some (.int s7), some (.int rest11)]) rfl ?_
        refine w_nextJ ?_
        obtain rfl := Option.some.inj hs10
        exact kx _ _ ⟨rfl, c0, r0⟩
      ·
        replace hs10 := Mi.ifF hb hs10
        refine w_nextJ ?_
        obtain rfl := Option.some.inj hs10
        exact kx _ _ ⟨rfl, c0, r0⟩
    obtain ⟨rfl, c0, r0⟩ := hj
    refine q_ret ?_
    refine w_lst ?_
    refine w_args (va_cons (val_var rfl) (va_cons (val_modc (val_int (val_add (val_add (val_var rfl) (val_mulL val_c (val_var rfl) ⟨by decide, by decide⟩)) val_c)) val_c (by decide)) (va_cons val_c va_nil))) ?_
    refine e_lst (K := K) (τ := yInt) (by exact Nat.le_of_ble_eq_true rfl) (.cons yInt_i (.cons yInt_i (.cons yInt_i .nil))) fun p12 H16 np15 c13 r14 => ?_
    have n17 : ∀ a ∈ [p12], H0 a = none := one_fresh (c0.dom p12 np15)
    have r0 := Ty.fz r0 c13
    have c0 := c0.trans c13.none
    obtain rfl := Option.some.inj hm
    exact hQ _ _ _ c0 r14 n17 
abbrev s_l_pick : Stmt := topS 34
abbrev N_l_pick : List Str := ["_law_hand_here", "_law_size", "_law_digit", "_law_mixed"]
theorem sc_l_pick : FnScope ["_law_hand_here", "_law_size", "_law_digit", "_law_mixed"] ["_law_hand_here", "_law_size"] (defScope s_l_pick) := ⟨rfl, rfl, rfl, by decide +kernel, rfl, by decide +kernel, by decide +kernel⟩
def sp_l_pick (K : PySem.W.Frag) : Sp := fun vs H Q _ => ∃ (v0 : V) (F0 : List Addr) (d0 : (List Int)) (d1 : Int) (r : (Int × (List Int))), vs = [v0, (.int d1)] ∧ (yLst yInt).rep K H F0 v0 d0 ∧ Mi.m_l_pick d0 d1 = some r ∧ ∀ H', Chg (F0) H H' → (yLst yInt).rep K H' F0 v0 r.2 → Q (.int r.1) H'
theorem ok_l_pick (B : Bi mg) (CN : Cs K mg) (D : Dfn K mg "_law_pick" s_l_pick)  : Cal P w K mg "_law_pick" ["_law_hand_here", "_law_size"] 1 (sp_l_pick K) := by
  obtain ⟨f, fd, F, g⟩ := D.ex
  refine ⟨f, fd, g, F.kp, bindsF F (fun _ _ _ _ _ _ us hl => match us, hl with | [_, _], _ => rfl), fun base => F.ok sc_l_pick (fun vs H Q E h => ?_) (fun cdv A outer s H0 vs Q E hr h => ?_)⟩
  · obtain ⟨v0, F0, d0, d1, r, rfl, r0, hm, hQ⟩ := h; rfl
  ·
    obtain ⟨v0, F0, d0, d1, r, rfl, r0, hm, hQ⟩ := h
    refine ⟨_, pss_cons (ps_if (pt_cmpR op_lt (pv 1) pe_int (nomark _)) (pss_cons (ps_ret pe_int) pss_nil) (pss_nil))
      (pss_cons (ps_if (pt_cmpR op_gt (pe_ix (ix_l (K := K)) (pv 0) pe_int (fun _ _ => rfl)) pe_int (nomark _)) (pss_cons (ps_set (i := 2) sc_l_pick.nd rfl (.inl rfl) (pe_op op_mod (pe_callTy cl_int (by rfl) B.int (by decide +kernel) (pa_cons (pe_ix (ix_l (K := K)) (pv 0) pe_int (fun _ _ => rfl)) pa_nil)) (pv 1)))
      (pss_cons (ps_asg (pe_op op_fdivW (pe_ix (ix_l (K := K)) (pv 0) pe_int (fun _ _ => rfl)) (pv 1)) (pg_sub (pv 0) pe_int set_list))
      (pss_cons (ps_ret (pv 2)) pss_nil))) (pss_nil))
      (pss_cons (ps_asg (pe_op op_add (pe_ix (ix_l (K := K)) (pv 0) pe_int (fun _ _ => rfl)) pe_int) (pg_sub (pv 0) pe_int set_list))
      (pss_cons (ps_set (i := 3) sc_l_pick.nd rfl (.inl rfl) (pe_op op_mod (pe_callTy cl_int (by rfl) B.int (by decide +kernel) (pa_cons (pe_op op_add (pe_op op_add (pe_ix (ix_l (K := K)) (pv 0) pe_int (fun _ _ => rfl)) (pe_op op_mul pe_int (pe_ix (ix_l (K := K)) (pv 0) pe_int (fun _ _ => rfl)))) pe_int) pa_nil)) pe_int))
      (pss_cons (ps_set (i := 3) sc_l_pick.nd rfl (.inl rfl) (pe_op op_mod (pe_callTy cl_int (by rfl) B.int (by decide +kernel) (pa_cons (pe_op op_mul (pv 3) (pe_op op_add (pv 3) pe_int)) pa_nil)) pe_int))
      (pss_cons (ps_set (i := 3) sc_l_pick.nd rfl (.inl rfl) (pe_op op_mod (pe_callTy cl_int (by rfl) B.int (by decide +kernel) (pa_cons (pe_op op_add (pe_op op_mul (pv 3) (pe_op op_add (pv 3) pe_int)) (pe_op op_mul pe_int (pe_ix (ix_l (K := K)) (pv 0) pe_int (fun _ _ => rfl)))) pa_nil)) pe_int))
      (pss_cons (ps_ret (pe_op op_mod (pe_callTy cl_int (by rfl) B.int (by decide +kernel) (pa_cons (pe_op op_fdiv (pv 3) pe_int) pa_nil)) (pv 1))) pss_nil)))))), ?_⟩
    have c0 : Chg (F0) H0 H0 := Chg.refl H0
    unfold Mi.m_l_pick at hm
    refine q_if (ans_t (val_lt (val_var rfl) val_c)) (fun hb => ?_) (fun hb => ?_)
    ·
      replace hm := Mi.ifT hb hm
      refine q_ret ?_
      refine c_val val_c ?_
      obtain rfl := Option.some.inj hm
      exact hQ _ c0 r0
    replace hm := Mi.ifF hb hm
    refine w_fall ?_
    obtain ⟨x3, hx3, hm⟩ := Mi.bnd hm
    refine q_if (ans_t (val_gt (itm_LI r0 hx3 (val_var rfl) val_c) val_c)) (fun hb => ?_) (fun hb => ?_)
    ·
      replace hm := Mi.ifT hb hm
      obtain ⟨x4, hx4, hm⟩ := Mi.bnd hm
      obtain ⟨x5, hx5, hm⟩ := Mi.bnd hm
      obtain ⟨digit6, hdigit6, hm⟩ := Mi.letE hm
      refine q_setE (val_mod (val_int (itm_LI r0 hx4 (val_var rfl) val_c)) (val_var rfl) hx5) (congrArg V.int hdigit6) (σ' := [some v0, some (.int d1), some (.int digit6), none]) rfl ?_
      refine q_asg ?_
      obtain ⟨x7, hx7, hm⟩ := Mi.bnd hm
      obtain ⟨x8, hx8, hm⟩ := Mi.bnd hm
      refine c_val (val_fdiv (itm_LI r0 hx7 (val_var rfl) val_c) (val_var rfl) hx8) ?_
      refine w_gsub ?_
      refine c_val (val_var rfl) ?_
      refine c_val val_c ?_
      obtain ⟨x9, hx9, hm⟩ := Mi.bnd hm
      refine m_set r0 yInt_i hx9 fun H11 c10 r0 => ?_
      have c0 := c0.join c10 (fun a h => .inl (h))
      refine q_ret ?_
      refine c_val (val_var rfl) ?_
      obtain rfl := Option.some.inj hm
      exact hQ _ c0 r0
    replace hm := Mi.ifF hb hm
    refine w_fall ?_
    refine q_asg ?_
    obtain ⟨x12, hx12, hm⟩ := Mi.bnd hm
    refine c_val (val_add (itm_LI r0 hx12 (val_var rfl) val_c) val_c) ?_
    refine w_gsub ?_
    refine c_val (val_var rfl) ?_
    refine c_val val_c ?_
    obtain ⟨x13, hx13, hm⟩ := Mi.bnd hm
    refine m_set r0 yInt_i hx13 fun H15 c14 r0 => ?_
    have c0 := c0.join c14 (fun a h => .inl (h))
    obtain ⟨x16, hx16, hm⟩ := Mi.bnd hm
    obtain ⟨x17, hx17, hm⟩ := Mi.bnd hm
    obtain ⟨mixed18, hmixed18, hm⟩ := Mi.letE hm
    refine q_setE (val_modc (val_int (val_add (val_add (itm_LI r0 hx16 (val_var rfl) val_c) (val_mulL val_c (itm_LI r0 hx17 (val_var rfl) val_c) ⟨by decide, by decide⟩)) val_c)) val_c (by decide)) (congrArg V.int hmixed18) (σ' := [some v0, some (.int d1), none, some (.int mixed18)]) rfl ?_
    obtain ⟨x19, hx19, hm⟩ := Mi.bnd hm
    obtain ⟨mixed20, hmixed20, hm⟩ := Mi.letE hm
    refine q_setE (val_modc (val_int (val_mul (val_var rfl) (val_add (val_var rfl) val_c) hx19)) val_c (by decide)) (congrArg V.int hmixed20) (σ' := [some v0, some (.int d1), none, some (.int mixed20)]) rfl ?_
    obtain ⟨x21, hx21, hm⟩ := Mi.bnd hm
    obtain ⟨x22, hx22, hm⟩ := Mi.bnd hm
    obtain ⟨mixed23, hmixed23, hm⟩ := Mi.letE hm
    refine q_setE (val_modc (val_int (val_add (val_mul (val_var rfl) (val_add (val_var rfl) val_c) hx21) (val_mulL val_c (itm_LI r0 hx22 (val_var rfl) val_c) ⟨by decide, by decide⟩))) val_c (by decide)) (congrArg V.int hmixed23) (σ' := [some v0, some (.int d1), none, some (.int mixed23)]) rfl ?_
    refine q_ret ?_
    obtain ⟨x24, hx24, hm⟩ := Mi.bnd hm
    refine c_val (val_mod (val_int (val_divc (val_var rfl) val_c ⟨by decide, by decide⟩)) (val_var rfl) hx24) ?_
    obtain rfl := Option.some.inj hm
    exact hQ _ c0 r0
abbrev s_l_int : Stmt := topS 35
abbrev N_l_int : List Str := ["_law_x"]
theorem sc_l_int : FnScope ["_law_x"] ["_law_x"] (defScope s_l_int) := ⟨rfl, rfl, rfl, by decide +kernel, rfl, by decide +kernel, by decide +kernel⟩
def sp_l_int (K : PySem.W.Frag) : Sp := fun vs H Q _ => (∃ (d0 : Int) (r : Bool), vs = [(.int d0)] ∧ Mi.m_l_int_0 d0 = some r ∧ ∀ H', Chg ([]) H H' → Q (.bl r) H') ∨ (∃ (v0 : V) (d0 : (Option Int)) (r : Bool), vs = [v0] ∧ (yOpt yInt).rep K H [] v0 d0 ∧ Mi.m_l_int_1 d0 = some r ∧ ∀ H', Chg ([]) H H' → Q (.bl r) H')
theorem ok_l_int (B : Bi mg) (CN : Cs K mg) (D : Dfn K mg "_law_int" s_l_int)  : Cal P w K mg "_law_int" ["_law_x"] 1 (sp_l_int K) := by
  obtain ⟨f, fd, F, g⟩ := D.ex
  refine ⟨f, fd, g, F.kp, bindsF F (fun _ _ _ _ _ _ us hl => match us, hl with | [_], _ => rfl), fun base => F.ok sc_l_int (fun vs H Q E h => ?_) (fun cdv A outer s H0 vs Q E hr h => ?_)⟩
  · rcases h with ⟨d0, r, rfl, hm, hQ⟩ | ⟨v0, d0, r, rfl, r0, hm, hQ⟩
    all_goals rfl
  · rcases h with h | h
    ·
      obtain ⟨d0, r, rfl, hm, hQ⟩ := h
      refine ⟨_, pss_cons (ps_ret (pe_and (pe_callB (cl_isi (K := K)) (by rfl) B.isinstance (by decide +kernel) (pa_cons (pv 0) (pa_cons (pe_bltn (v := .ty "int") (by rfl) B.int (by decide +kernel) rfl) pa_nil))) (pe_one (pe_not (pe_callB (cl_isi (K := K)) (by rfl) B.isinstance (by decide +kernel) (pa_cons (pv 0) (pa_cons (pe_bltn (v := .ty "bool") (by rfl) B.bool (by decide +kernel) rfl) pa_nil))))))) pss_nil, ?_⟩
      have c0 : Chg ([] : List Addr) H0 H0 := Chg.refl H0
      unfold Mi.m_l_int_0 at hm
      refine q_ret ?_
      refine c_val (val_andV (val_isi (val_var rfl) ty_int (n := "int") (m := "int") (b := true) (by decide +kernel)) (fun _ => (val_notV (val_isi (val_var rfl) ty_int (n := "int") (m := "bool") (b := false) (by decide +kernel))))) ?_
      obtain rfl := Option.some.inj hm
      exact hQ _ c0 
    ·
      obtain ⟨v0, d0, r, rfl, r0, hm, hQ⟩ := h
      refine ⟨_, pss_cons (ps_ret (pe_and (pe_callB (cl_isi (K := K)) (by rfl) B.isinstance (by decide +kernel) (pa_cons (pv 0) (pa_cons (pe_bltn (v := .ty "int") (by rfl) B.int (by decide +kernel) rfl) pa_nil))) (pe_one (pe_not (pe_callB (cl_isi (K := K)) (by rfl) B.isinstance (by decide +kernel) (pa_cons (pv 0) (pa_cons (pe_bltn (v := .ty "bool") (by rfl) B.bool (by decide +kernel) rfl) pa_nil))))))) pss_nil, ?_⟩
      have c0 : Chg ([] : List Addr) H0 H0 := Chg.refl H0
      unfold Mi.m_l_int_1 at hm
      refine q_ret ?_
      refine c_val (val_andV (val_isiO (n := "int") (m := "int") (b := true) tyr_int r0 (val_var rfl) (by decide +kernel) (by decide +kernel)) (fun _ => (val_notV (val_isiO (n := "int") (m := "bool") (b := false) tyr_int r0 (val_var rfl) (by decide +kernel) (by decide +kernel))))) ?_
      obtain rfl := Option.some.inj hm
      exact hQ _ c0 
abbrev s_l_some : Stmt := topS 36
abbrev N_l_some : List Str := ["_law_hand_here", "_law_size", "_law_share", "_law_zone", "_law_place"]
theorem sc_l_some : FnScope ["_law_hand_here", "_law_size", "_law_share", "_law_zone", "_law_place"] ["_law_hand_here", "_law_size", "_law_share"] (defScope s_l_some) := ⟨rfl, rfl, rfl, by decide +kernel, rfl, by decide +kernel, by decide +kernel⟩
def sp_l_some (K : PySem.W.Frag) : Sp := fun vs H Q _ => ∃ (v0 : V) (F0 : List Addr) (d0 : (List Int)) (d1 : Int) (d2 : Int) (r : ((List Int) × (List Int))), vs = [v0, (.int d1), (.int d2)] ∧ (yLst yInt).rep K H F0 v0 d0 ∧ Mi.m_l_some d0 d1 d2 = some r ∧ ∀ v H' F, Chg (F0) H H' → (yLst yInt).rep K H' F v r.1 → (∀ a ∈ F, H a = none) → (yLst yInt).rep K H' F0 v0 r.2 → Q v H'
theorem ok_l_some (B : Bi mg) (CN : Cs K mg) (D : Dfn K mg "_law_some" s_l_some) (C_l_pick : Cal P w K mg "_law_pick" ["_law_hand_here", "_law_size"] 1 (sp_l_pick K)) : Cal P w K mg "_law_some" ["_law_hand_here", "_law_size", "_law_share"] 2 (sp_l_some K) := by
  obtain ⟨f, fd, F, g⟩ := D.ex
  refine ⟨f, fd, g, F.kp, bindsF F (fun _ _ _ _ _ _ us hl => match us, hl with | [_, _, _], _ => rfl), fun base => F.ok sc_l_some (fun vs H Q E h => ?_) (fun cdv A outer s H0 vs Q E hr h => ?_)⟩
  · obtain ⟨v0, F0, d0, d1, d2, r, rfl, r0, hm, hQ⟩ := h; rfl
  ·
    obtain ⟨v0, F0, d0, d1, d2, r, rfl, r0, hm, hQ⟩ := h
    refine ⟨_, pss_cons (ps_set (i := 3) sc_l_some.nd rfl (.inl rfl) (pe_lst pa_nil))
      (pss_cons (ps_for PassesOwn.never rfl (pi_range1 (by rfl) B.range (pa_cons (pv 1) pa_nil)) (pg_name (i := 4) sc_l_some.nd rfl (.inl rfl)) (pss_cons (ps_if (pt_cmpR op_eq (pe_cc C_l_pick hr (pa_cons (pv 0) (pa_cons (pv 2) pa_nil))) pe_int (nomark _)) (pss_cons (ps_expr (pe_bm PySem.F.plainAttrs_list PySem.F.slot_list_append PySem.F.type_list_append mt_append (pv 3) (pa_cons (pv 4) pa_nil)))
      (pss_nil)) (pss_nil))
      (pss_nil)))
      (pss_cons (ps_ret (pv 3)) pss_nil)), ?_⟩
    have c0 : Chg (F0) H0 H0 := Chg.refl H0
    unfold Mi.m_l_some at hm
    refine q_asg ?_
    refine w_lst ?_
    refine w_args va_nil ?_
    refine e_lst (K := K) (τ := yInt) (by exact Nat.le_of_ble_eq_true rfl) .nil fun p4 H8 np7 c5 r6 => ?_
    have d9 : Dj F0 [p4] := Ty.nin r0 np7
    have n10 : ∀ a ∈ [p4], H0 a = none := one_fresh (c0.dom p4 np7)
    have r0 := Ty.ex r0 c5
    have c0 := c0.trans c5.none
    refine g_name (σ' := [some v0, some (.int d1), some (.int d2), some (.ref p4), none]) rfl ?_
    refine q_for ?_
    refine w_iRng1 ?_
    refine w_args (va_cons (val_var rfl) va_nil) ?_
    obtain ⟨g11, hg11, hm⟩ := Mi.bnd hm
    obtain ⟨e12, he12, hm⟩ := Mi.bnd hm
    refine l_rng1 hg11 (fun i σ' H' => ∃ (s13 : ((List Int) × (List Int))) (y14 : Option V), σ' = [some v0, some (.int d1), some (.int d2), some (.ref p4), y14] ∧ Chg (F0) H0 H' ∧ (yLst yInt).rep K H' F0 v0 s13.1 ∧ (yLst yInt).rep K H' [p4] (.ref p4) s13.2 ∧ Mi.forN (Mi.m_l_some_b1 d2) s13 (List.drop i g11) = some e12) ⟨(d0, ([] : (List Int))), none, rfl, c0, r0, r6, he12⟩ (fun i17 x16 σ' H' hx15 hp => ?_) (fun σ' H' hp => ?_)
    ·
      obtain ⟨s13, y14, rfl, c0, r0, r6, hle12⟩ := hp
      obtain ⟨_, hbe12, hle12⟩ := Mi.forN_go hle12 hx15
      unfold Mi.m_l_some_b1 at hbe12
      refine g_name (σ' := [some v0, some (.int d1), some (.int d2), some (.ref p4), some (.int x16)]) rfl ?_
      obtain ⟨s18, hs18, hbe12⟩ := Mi.bnd hbe12
      refine s_join (R := fun σ' H' => σ' = [some v0, some (.int d1), some (.int d2), some (.ref p4), some (.int x16)] ∧ Chg (F0) H0 H' ∧ (yLst yInt).rep K H' F0 v0 s18.1 ∧ (yLst yInt).rep K H' [p4] (.ref p4) s18.2) (fun nx kx => ?_) (fun σ' H' hj => ?_)
      ·
        refine w_ifS ?_
        refine w_test ?_
        refine w_op ?_
        refine w_call ?_
        refine w_args (va_cons (val_var rfl) (va_cons (val_var rfl) va_nil)) ?_
        obtain ⟨q19, hq19, hs18⟩ := Mi.bnd hs18
        refine ⟨v0, F0, s13.1, d2, q19, rfl, r0, hq19, fun H21 c20 r0 => ?_⟩
        have r6 := Ty.chg r6 c20 d9.symm
        have c0 := c0.join c20 (fun a h => .inl (h))
        refine c_val val_c ?_
        refine w_eqI ?_
        refine ⟨_, rfl, ?_⟩
        refine c_if (fun hb => ?_) (fun hb => ?_)
        ·
          replace hs18 := Mi.ifT hb hs18
          refine q_drop (w_bm (c_val (val_var rfl) ⟨tyv_lst r6, ?_⟩))
          refine w_args (va_cons (val_var rfl) va_nil) ?_
          obtain ⟨x22, hx22, hs18⟩ := Mi.bnd hs18
          refine m_app r6 yInt_i hx22 fun H24 c23 r6 => ?_
          have r0 := Ty.chg r0 c23 d9
          have c0 := c0.join c23 (fun a h => .inr (n10 a h))
          refine w_nextJ ?_
          obtain rfl := Option.some.inj hs18
          exact kx _ _ ⟨rfl, c0, r0, r6⟩
        ·
          replace hs18 := Mi.ifF hb hs18
          refine w_nextJ ?_
          obtain rfl := Option.some.inj hs18
          exact kx _ _ ⟨rfl, c0, r0, r6⟩
      obtain ⟨rfl, c0, r0, r6⟩ := hj
      refine w_nextJ ?_
      obtain rfl := Option.some.inj hbe12
      exact ⟨_, (some (.int x16)), rfl, c0, r0, r6, hle12⟩
    obtain ⟨s13, y14, rfl, c0, r0, r6, hle12⟩ := hp
    obtain rfl := Mi.forN_end hle12
    refine q_ret ?_
    refine c_val (val_var rfl) ?_
    obtain rfl := Option.some.inj hm
    exact hQ _ _ _ c0 r6 n10 r0
abbrev s_l_sea : Stmt := topS 37
abbrev N_l_sea : List Str := ["_law_hand_here", "_law_most", "_law_size", "_law_span", "_law_swell", "_law_deeps", "_law_joins", "_law_b", "_law_a", "_law_flows", "_law_turn"]
theorem sc_l_sea : FnScope ["_law_hand_here", "_law_most", "_law_size", "_law_span", "_law_swell", "_law_deeps", "_law_joins", "_law_b", "_law_a", "_law_flows", "_law_turn"] ["_law_hand_here", "_law_most"] (defScope s_l_sea) := ⟨rfl, rfl, rfl, by decide +kernel, rfl, by decide +kernel, by decide +kernel⟩
def sp_l_sea (K : PySem.W.Frag) : Sp := fun vs H Q _ => ∃ (v0 : V) (F0 : List Addr) (d0 : (List Int)) (d1 : Int) (r : (((List Int) × (List (Int × Int)) × (List Int) × (List Int)) × (List Int))), vs = [v0, (.int d1)] ∧ (yLst yInt).rep K H F0 v0 d0 ∧ Mi.m_l_sea d0 d1 = some r ∧ ∀ v H' F, Chg (F0) H H' → (yTup (sCons (yLst yInt) (sCons (yLst (yTup (sCons yInt (sOne yInt)))) (sCons (yLst yInt) (sOne (yLst yInt)))))).rep K H' F v r.1 → (∀ a ∈ F, H a = none) → (yLst yInt).rep K H' F0 v0 r.2 → Q v H'
theorem ok_l_sea (B : Bi mg) (CN : Cs K mg) (D : Dfn K mg "_law_sea" s_l_sea) (C_l_pick : Cal P w K mg "_law_pick" ["_law_hand_here", "_law_size"] 1 (sp_l_pick K)) (C_l_some : Cal P w K mg "_law_some" ["_law_hand_here", "_law_size", "_law_share"] 2 (sp_l_some K)) : Cal P w K mg "_law_sea" ["_law_hand_here", "_law_most"] 3 (sp_l_sea K) := by
  obtain ⟨f, fd, F, g⟩ := D.ex
  refine ⟨f, fd, g, F.kp, bindsF F (fun _ _ _ _ _ _ us hl => match us, hl with | [_, _], _ => rfl), fun base => F.ok sc_l_sea (fun vs H Q E h => ?_) (fun cdv A outer s H0 vs Q E hr h => ?_)⟩
  · obtain ⟨v0, F0, d0, d1, r, rfl, r0, hm, hQ⟩ := h; rfl
  ·
    obtain ⟨v0, F0, d0, d1, r, rfl, r0, hm, hQ⟩ := h
    refine ⟨_, pss_cons (ps_set (i := 2) sc_l_sea.nd rfl (.inl rfl) (pe_op op_add pe_int (pe_cc C_l_pick hr (pa_cons (pv 0) (pa_cons (pv 1) pa_nil)))))
      (pss_cons (ps_set (i := 3) sc_l_sea.nd rfl (.inl rfl) (pe_ix (ix_l (K := K)) (pe_lst (pa_cons pe_int (pa_cons pe_int (pa_cons pe_int pa_nil)))) (pe_cc C_l_pick hr (pa_cons (pv 0) (pa_cons pe_int pa_nil))) (fun _ _ => rfl)))
      (pss_cons (ps_set (i := 4) sc_l_sea.nd rfl (.inl rfl) (pe_ix (ix_l (K := K)) (pe_lst (pa_cons pe_int (pa_cons pe_int (pa_cons pe_int pa_nil)))) (pe_cc C_l_pick hr (pa_cons (pv 0) (pa_cons pe_int pa_nil))) (fun _ _ => rfl)))
      (pss_cons (ps_set (i := 5) sc_l_sea.nd rfl (.inl rfl) (pe_lst pa_nil))
      (pss_cons (ps_set (i := 6) sc_l_sea.nd rfl (.inl rfl) (pe_lst pa_nil))
      (pss_cons (ps_for PassesOwn.never rfl (pi_range1 (by rfl) B.range (pa_cons (pv 2) pa_nil)) (pg_name (i := 7) sc_l_sea.nd rfl (.inl rfl)) (pss_cons (ps_expr (pe_bm PySem.F.plainAttrs_list PySem.F.slot_list_append PySem.F.type_list_append mt_append (pv 5) (pa_cons (pe_cc C_l_pick hr (pa_cons (pv 0) (pa_cons (pv 3) pa_nil))) pa_nil)))
      (pss_cons (ps_for PassesOwn.never rfl (pi_range1 (by rfl) B.range (pa_cons (pv 7) pa_nil)) (pg_name (i := 8) sc_l_sea.nd rfl (.inl rfl)) (pss_cons (ps_if (pt_cmpR op_gt (pe_cc C_l_pick hr (pa_cons (pv 0) (pa_cons pe_int pa_nil))) pe_int (nomark _)) (pss_cons (ps_expr (pe_bm PySem.F.plainAttrs_list PySem.F.slot_list_append PySem.F.type_list_append mt_append (pv 6) (pa_cons (pe_tup (pa_cons (pv 8) (pa_cons (pv 7) pa_nil))) pa_nil)))
      (pss_nil)) (pss_nil))
      (pss_nil)))
      (pss_nil))))
      (pss_cons (ps_set (i := 9) sc_l_sea.nd rfl (.inl rfl) (pe_lst (pa_cons pe_int pa_nil)))
      (pss_cons (ps_for PassesOwn.never rfl (pi_range1 (by rfl) B.range (pa_cons (pe_cc C_l_pick hr (pa_cons (pv 0) (pa_cons pe_int pa_nil))) pa_nil)) (pg_name (i := 10) sc_l_sea.nd rfl (.inl rfl)) (pss_cons (ps_expr (pe_bm PySem.F.plainAttrs_list PySem.F.slot_list_append PySem.F.type_list_append mt_append (pv 9) (pa_cons (pe_cc C_l_pick hr (pa_cons (pv 0) (pa_cons (pv 4) pa_nil))) pa_nil)))
      (pss_nil)))
      (pss_cons (ps_ret (pe_tup (pa_cons (pv 5) (pa_cons (pv 6) (pa_cons (pv 9) (pa_cons (pe_cc C_l_some hr (pa_cons (pv 0) (pa_cons (pv 2) (pa_cons pe_int pa_nil)))) pa_nil)))))) pss_nil)))))))), ?_⟩
    have c0 : Chg (F0) H0 H0 := Chg.refl H0
    unfold Mi.m_l_sea at hm
    refine q_asg ?_
    refine w_op ?_
    refine c_val val_c ?_
    refine w_call ?_
    refine w_args (va_cons (val_var rfl) (va_cons (val_var rfl) va_nil)) ?_
    obtain ⟨q3, hq3, hm⟩ := Mi.bnd hm
    refine ⟨v0, F0, d0, d1, q3, rfl, r0, hq3, fun H5 c4 r0 => ?_⟩
    have c0 := c0.join c4 (fun a h => .inl (h))
    refine w_I0 ?_
    obtain ⟨size6, hsize6, hm⟩ := Mi.letE hm
    refine g_nameE (congrArg V.int hsize6) (σ' := [some v0, some (.int d1), some (.int size6), none, none, none, none, none, none, none, none]) rfl ?_
    refine q_asg ?_
    refine w_op ?_
    refine w_lst ?_
    refine w_args (va_cons val_c (va_cons val_c (va_cons val_c va_nil))) ?_
    refine e_lst (K := K) (τ := yInt) (by exact Nat.le_of_ble_eq_true rfl) (.cons yInt_i (.cons yInt_i (.cons yInt_i .nil))) fun p7 H11 np10 c8 r9 => ?_
    have d12 : Dj F0 [p7] := Ty.nin r0 np10
    have n13 : ∀ a ∈ [p7], H0 a = none := one_fresh (c0.dom p7 np10)
    have r0 := Ty.ex r0 c8
    have c0 := c0.trans c8.none
    refine w_call ?_
    refine w_args (va_cons (val_var rfl) (va_cons val_c va_nil)) ?_
    obtain ⟨q14, hq14, hm⟩ := Mi.bnd hm
    refine ⟨v0, F0, q3.2, (3 : Int), q14, rfl, r0, hq14, fun H16 c15 r0 => ?_⟩
    have r9 := Ty.chg r9 c15 d12.symm
    have c0 := c0.join c15 (fun a h => .inl (h))
    obtain ⟨x17, hx17, hm⟩ := Mi.bnd hm
    refine w_ixL r9 hx17 fun u18 r19 => ?_
    obtain ⟨_, rfl⟩ := r19
    refine g_name (σ' := [some v0, some (.int d1), some (.int size6), some (.int x17), none, none, none, none, none, none, none]) rfl ?_
    refine q_asg ?_
    refine w_op ?_
    refine w_lst ?_
    refine w_args (va_cons val_c (va_cons val_c (va_cons val_c va_nil))) ?_
    refine e_lst (K := K) (τ := yInt) (by exact Nat.le_of_ble_eq_true rfl) (.cons yInt_i (.cons yInt_i (.cons yInt_i .nil))) fun p20 H24 np23 c21 r22 => ?_
    have d25 : Dj F0 [p20] := Ty.nin r0 np23
    have n26 : ∀ a ∈ [p20], H0 a = none := one_fresh (c0.dom p20 np23)
    have r0 := Ty.ex r0 c21
    have c0 := c0.trans c21.none
    refine w_call ?_
    refine w_args (va_cons (val_var rfl) (va_cons val_c va_nil)) ?_
    obtain ⟨q27, hq27, hm⟩ := Mi.bnd hm
    refine ⟨v0, F0, q14.2, (3 : Int), q27, rfl, r0, hq27, fun H29 c28 r0 => ?_⟩
    have r22 := Ty.chg r22 c28 d25.symm
    have c0 := c0.join c28 (fun a h => .inl (h))
    obtain ⟨x30, hx30, hm⟩ := Mi.bnd hm
    refine w_ixL r22 hx30 fun u31 r32 => ?_
    obtain ⟨_, rfl⟩ := r32
    refine g_name (σ' := [some v0, some (.int d1), some (.int size6), some (.int x17), some (.int x30), none, none, none, none, none, none]) rfl ?_
    refine q_asg ?_
    refine w_lst ?_
    refine w_args va_nil ?_
    refine e_lst (K := K) (τ := yInt) (by exact Nat.le_of_ble_eq_true rfl) .nil fun p33 H37 np36 c34 r35 => ?_
    have d38 : Dj F0 [p33] := Ty.nin r0 np36
    have n39 : ∀ a ∈ [p33], H0 a = none := one_fresh (c0.dom p33 np36)
    have r0 := Ty.ex r0 c34
    have c0 := c0.trans c34.none
    refine g_name (σ' := [some v0, some (.int d1), some (.int size6), some (.int x17), some (.int x30), some (.ref p33), none, none, none, none, none]) rfl ?_
    refine q_asg ?_
    refine w_lst ?_
    refine w_args va_nil ?_
    refine e_lst (K := K) (τ := (yTup (sCons yInt (sOne yInt)))) (by exact Nat.le_of_ble_eq_true rfl) .nil fun p40 H44 np43 c41 r42 => ?_
    have d45 : Dj F0 [p40] := Ty.nin r0 np43
    have d46 : Dj [p33] [p40] := Ty.nin r35 np43
    have n47 : ∀ a ∈ [p40], H0 a = none := one_fresh (c0.dom p40 np43)
    have r0 := Ty.ex r0 c41
    have r35 := Ty.ex r35 c41
    have c0 := c0.trans c41.none
    refine g_name (σ' := [some v0, some (.int d1), some (.int size6), some (.int x17), some (.int x30), some (.ref p33), some (.ref p40), none, none, none, none]) rfl ?_
    refine q_for ?_
    refine w_iRng1 ?_
    refine w_args (va_cons (val_var rfl) va_nil) ?_
    obtain ⟨g48, hg48, hm⟩ := Mi.bnd hm
    obtain ⟨e49, he49, hm⟩ := Mi.bnd hm
    refine l_rng1 hg48 (fun i σ' H' => ∃ (s50 : ((List Int) × (List Int) × (List (Int × Int)))) (y51 : Option V) (y52 : Option V), σ' = [some v0, some (.int d1), some (.int size6), some (.int x17), some (.int x30), some (.ref p33), some (.ref p40), y51, y52, none, none] ∧ Chg (F0) H0 H' ∧ (yLst yInt).rep K H' F0 v0 s50.1 ∧ (yLst yInt).rep K H' [p33] (.ref p33) s50.2.1 ∧ (yLst (yTup (sCons yInt (sOne yInt)))).rep K H' [p40] (.ref p40) s50.2.2 ∧ Mi.forN (Mi.m_l_sea_b1 x17) s50 (List.drop i g48) = some e49) ⟨(q27.2, ([] : (List Int)), ([] : (List (Int × Int)))), none, none, rfl, c0, r0, r35, r42, he49⟩ (fun i55 x54 σ' H' hx53 hp => ?_) (fun σ' H' hp => ?_)
    ·
      obtain ⟨s50, y51, y52, rfl, c0, r0, r35, r42, hle49⟩ := hp
      obtain ⟨_, hbe49, hle49⟩ := Mi.forN_go hle49 hx53
      unfold Mi.m_l_sea_b1 at hbe49
      refine g_name (σ' := [some v0, some (.int d1), some (.int size6), some (.int x17), some (.int x30), some (.ref p33), some (.ref p40), some (.int x54), y52, none, none]) rfl ?_
      refine q_drop (w_bm (c_val (val_var rfl) ⟨tyv_lst r35, ?_⟩))
      refine w_cons ?_
      refine w_call ?_
      refine w_args (va_cons (val_var rfl) (va_cons (val_var rfl) va_nil)) ?_
      obtain ⟨q56, hq56, hbe49⟩ := Mi.bnd hbe49
      refine ⟨v0, F0, s50.1, x17, q56, rfl, r0, hq56, fun H58 c57 r0 => ?_⟩
      have r35 := Ty.chg r35 c57 d38.symm
      have r42 := Ty.chg r42 c57 d45.symm
      have c0 := c0.join c57 (fun a h => .inl (h))
      refine w_nil ?_
      obtain ⟨x59, hx59, hbe49⟩ := Mi.bnd hbe49
      refine m_app r35 yInt_i hx59 fun H61 c60 r35 => ?_
      have r0 := Ty.chg r0 c60 d38
      have r42 := Ty.chg r42 c60 d46.symm
      have c0 := c0.join c60 (fun a h => .inr (n39 a h))
      refine q_for ?_
      refine w_iRng1 ?_
      refine w_args (va_cons (val_var rfl) va_nil) ?_
      obtain ⟨g62, hg62, hbe49⟩ := Mi.bnd hbe49
      obtain ⟨e63, he63, hbe49⟩ := Mi.bnd hbe49
      refine l_rng1 hg62 (fun i σ' H' => ∃ (s64 : ((List Int) × (List (Int × Int)))) (y65 : Option V), σ' = [some v0, some (.int d1), some (.int size6), some (.int x17), some (.int x30), some (.ref p33), some (.ref p40), some (.int x54), y65, none, none] ∧ Chg (F0) H0 H' ∧ (yLst yInt).rep K H' F0 v0 s64.1 ∧ (yLst yInt).rep K H' [p33] (.ref p33) x59 ∧ (yLst (yTup (sCons yInt (sOne yInt)))).rep K H' [p40] (.ref p40) s64.2 ∧ Mi.forN (Mi.m_l_sea_b2 x54) s64 (List.drop i g62) = some e63) ⟨(q56.2, s50.2.2), y52, rfl, c0, r0, r35, r42, he63⟩ (fun i68 x67 σ' H' hx66 hp => ?_) (fun σ' H' hp => ?_)
      ·
        obtain ⟨s64, y65, rfl, c0, r0, r35, r42, hle63⟩ := hp
        obtain ⟨_, hbe63, hle63⟩ := Mi.forN_go hle63 hx66
        unfold Mi.m_l_sea_b2 at hbe63
        refine g_name (σ' := [some v0, some (.int d1), some (.int size6), some (.int x17), some (.int x30), some (.ref p33), some (.ref p40), some (.int x54), some (.int x67), none, none]) rfl ?_
        obtain ⟨s69, hs69, hbe63⟩ := Mi.bnd hbe63
        refine s_join (R := fun σ' H' => σ' = [some v0, some (.int d1), some (.int size6), some (.int x17), some (.int x30), some (.ref p33), some (.ref p40), some (.int x54), some (.int x67), none, none] ∧ Chg (F0) H0 H' ∧ (yLst yInt).rep K H' F0 v0 s69.1 ∧ (yLst yInt).rep K H' [p33] (.ref p33) x59 ∧ (yLst (yTup (sCons yInt (sOne yInt)))).rep K H' [p40] (.ref p40) s69.2) (fun nx kx => ?_) (fun σ' H' hj => ?_)
        ·
          refine w_ifS ?_
          refine w_test ?_
          refine w_op ?_
          refine w_call ?_
          refine w_args (va_cons (val_var rfl) (va_cons val_c va_nil)) ?_
          obtain ⟨q70, hq70, hs69⟩ := Mi.bnd hs69
          refine ⟨v0, F0, s64.1, (4 : Int), q70, rfl, r0, hq70, fun H72 c71 r0 => ?_⟩
          have r35 := Ty.chg r35 c71 d38.symm
          have r42 := Ty.chg r42 c71 d45.symm
          have c0 := c0.join c71 (fun a h => .inl (h))
          refine c_val val_c ?_
          refine w_I0 ?_
          refine ⟨_, rfl, ?_⟩
          refine c_if (fun hb => ?_) (fun hb => ?_)
          ·
            replace hs69 := Mi.ifT hb hs69
            refine q_drop (w_bm (c_val (val_var rfl) ⟨tyv_lst r42, ?_⟩))
            refine w_cons ?_
            refine w_tup ?_
            refine w_args (va_cons (val_var rfl) (va_cons (val_var rfl) va_nil)) ?_
            refine e_tup (K := K) (ty := (sCons yInt (sOne yInt))) (F := []) (d := (x67, x54)) (by exact Nat.le_of_ble_eq_true rfl) ⟨_, _, _, _, rfl, rfl, yInt_i, ⟨_, rfl, yInt_i⟩⟩ fun p73 H77 np76 c74 r75 => ?_
            have r0 := Ty.ex r0 c74
            have r35 := Ty.ex r35 c74
            have r42 := Ty.ex r42 c74
            have c0 := c0.trans c74.none
            refine w_nil ?_
            obtain ⟨x78, hx78, hs69⟩ := Mi.bnd hs69
            refine m_app r42 r75 hx78 fun H80 c79 r42 => ?_
            have r0 := Ty.chg r0 c79 d45
            have r35 := Ty.chg r35 c79 d46
            have c0 := c0.join c79 (fun a h => .inr (n47 a h))
            refine w_nextJ ?_
            obtain rfl := Option.some.inj hs69
            exact kx _ _ ⟨rfl, c0, r0, r35, r42⟩
          ·
            replace hs69 := Mi.ifF hb hs69
            refine w_nextJ ?_
            obtain rfl := Option.some.inj hs69
            exact kx _ _ ⟨rfl, c0, r0, r35, r42⟩
        obtain ⟨rfl, c0, r0, r35, r42⟩ := hj
        refine w_nextJ ?_
        obtain rfl := Option.some.inj hbe63
        exact ⟨_, (some (.int x67)), rfl, c0, r0, r35, r42, hle63⟩
      obtain ⟨s64, y65, rfl, c0, r0, r35, r42, hle63⟩ := hp
      obtain rfl := Mi.forN_end hle63
      refine w_nextJ ?_
      obtain rfl := Option.some.inj hbe49
      exact ⟨_, (some (.int x54)), y65, rfl, c0, r0, r35, r42, hle49⟩
    obtain ⟨s50, y51, y52, rfl, c0, r0, r35, r42, hle49⟩ := hp
    obtain rfl := Mi.forN_end hle49
    refine q_asg ?_
    refine w_lst ?_
    refine w_args (va_cons val_c va_nil) ?_
    refine e_lst (K := K) (τ := yInt) (by exact Nat.le_of_ble_eq_true rfl) (.cons yInt_i .nil) fun p81 H85 np84 c82 r83 => ?_
    have d86 : Dj F0 [p81] := Ty.nin r0 np84
    have d87 : Dj [p33] [p81] := Ty.nin r35 np84
    have d88 : Dj [p40] [p81] := Ty.nin r42 np84
    have n89 : ∀ a ∈ [p81], H0 a = none := one_fresh (c0.dom p81 np84)
    have r0 := Ty.ex r0 c82
    have r35 := Ty.ex r35 c82
    have r42 := Ty.ex r42 c82
    have c0 := c0.trans c82.none
    refine g_name (σ' := [some v0, some (.int d1), some (.int size6), some (.int x17), some (.int x30), some (.ref p33), some (.ref p40), y51, y52, some (.ref p81), none]) rfl ?_
    refine q_for ?_
    refine w_iRng1 ?_
    refine w_cons ?_
    refine w_call ?_
    refine w_args (va_cons (val_var rfl) (va_cons val_c va_nil)) ?_
    obtain ⟨q90, hq90, hm⟩ := Mi.bnd hm
    refine ⟨v0, F0, s50.1, (3 : Int), q90, rfl, r0, hq90, fun H92 c91 r0 => ?_⟩
    have r35 := Ty.chg r35 c91 d38.symm
    have r42 := Ty.chg r42 c91 d45.symm
    have r83 := Ty.chg r83 c91 d86.symm
    have c0 := c0.join c91 (fun a h => .inl (h))
    refine w_nil ?_
    obtain ⟨g93, hg93, hm⟩ := Mi.bnd hm
    obtain ⟨e94, he94, hm⟩ := Mi.bnd hm
    refine l_rng1 hg93 (fun i σ' H' => ∃ (s95 : ((List Int) × (List Int))) (y96 : Option V), σ' = [some v0, some (.int d1), some (.int size6), some (.int x17), some (.int x30), some (.ref p33), some (.ref p40), y51, y52, some (.ref p81), y96] ∧ Chg (F0) H0 H' ∧ (yLst yInt).rep K H' F0 v0 s95.1 ∧ (yLst yInt).rep K H' [p33] (.ref p33) s50.2.1 ∧ (yLst (yTup (sCons yInt (sOne yInt)))).rep K H' [p40] (.ref p40) s50.2.2 ∧ (yLst yInt).rep K H' [p81] (.ref p81) s95.2 ∧ Mi.forN (Mi.m_l_sea_b3 x30) s95 (List.drop i g93) = some e94) ⟨(q90.2, [(0 : Int)]), none, rfl, c0, r0, r35, r42, r83, he94⟩ (fun i99 x98 σ' H' hx97 hp => ?_) (fun σ' H' hp => ?_)
    ·
      obtain ⟨s95, y96, rfl, c0, r0, r35, r42, r83, hle94⟩ := hp
      obtain ⟨_, hbe94, hle94⟩ := Mi.forN_go hle94 hx97
      unfold Mi.m_l_sea_b3 at hbe94
      refine g_name (σ' := [some v0, some (.int d1), some (.int size6), some (.int x17), some (.int x30), some (.ref p33), some (.ref p40), y51, y52, some (.ref p81), some (.int x98)]) rfl ?_
      refine q_drop (w_bm (c_val (val_var rfl) ⟨tyv_lst r83, ?_⟩))
      refine w_cons ?_
      refine w_call ?_
      refine w_args (va_cons (val_var rfl) (va_cons (val_var rfl) va_nil)) ?_
      obtain ⟨q100, hq100, hbe94⟩ := Mi.bnd hbe94
      refine ⟨v0, F0, s95.1, x30, q100, rfl, r0, hq100, fun H102 c101 r0 => ?_⟩
      have r35 := Ty.chg r35 c101 d38.symm
      have r42 := Ty.chg r42 c101 d45.symm
      have r83 := Ty.chg r83 c101 d86.symm
      have c0 := c0.join c101 (fun a h => .inl (h))
      refine w_nil ?_
      obtain ⟨x103, hx103, hbe94⟩ := Mi.bnd hbe94
      refine m_app r83 yInt_i hx103 fun H105 c104 r83 => ?_
      have r0 := Ty.chg r0 c104 d86
      have r35 := Ty.chg r35 c104 d87
      have r42 := Ty.chg r42 c104 d88
      have c0 := c0.join c104 (fun a h => .inr (n89 a h))
      refine w_nextJ ?_
      obtain rfl := Option.some.inj hbe94
      exact ⟨_, (some (.int x98)), rfl, c0, r0, r35, r42, r83, hle94⟩
    obtain ⟨s95, y96, rfl, c0, r0, r35, r42, r83, hle94⟩ := hp
    obtain rfl := Mi.forN_end hle94
    refine q_ret ?_
    refine w_tup ?_
    refine w_cons ?_
    refine c_val (val_var rfl) ?_
    refine w_cons ?_
    refine c_val (val_var rfl) ?_
    refine w_cons ?_
    refine c_val (val_var rfl) ?_
    refine w_cons ?_
    refine w_call ?_
    refine w_args (va_cons (val_var rfl) (va_cons (val_var rfl) (va_cons val_c va_nil))) ?_
    obtain ⟨q106, hq106, hm⟩ := Mi.bnd hm
    have r0_old := r0
    refine ⟨v0, F0, s95.1, size6, (4 : Int), q106, rfl, r0, hq106, fun v109 H108 F111 c107 r110 fr112 r0 => ?_⟩
    have d113 : Dj F0 F111 := Ty.fresh r0_old fr112
    have d114 : Dj [p33] F111 := Ty.fresh r35 fr112
    have d115 : Dj [p40] F111 := Ty.fresh r42 fr112
    have d116 : Dj [p81] F111 := Ty.fresh r83 fr112
    have n117 : ∀ a ∈ F111, H0 a = none := fun a h => c0.dom a (fr112 a h)
    have r35 := Ty.chg r35 c107 d38.symm
    have r42 := Ty.chg r42 c107 d45.symm
    have r83 := Ty.chg r83 c107 d86.symm
    have c0 := c0.join c107 (fun a h => .inl (h))
    refine w_nil ?_
    refine e_tup (K := K) (ty := (sCons (yLst yInt) (sCons (yLst (yTup (sCons yInt (sOne yInt)))) (sCons (yLst yInt) (sOne (yLst yInt)))))) (F := ([p33] ++ ([p40] ++ ([p81] ++ F111)))) (d := (s50.2.1, s50.2.2, s95.2, q106.1)) (by exact Nat.le_of_ble_eq_true rfl) ⟨_, _, _, _, rfl, rfl, r35, ⟨_, _, _, _, rfl, rfl, r42, ⟨_, _, _, _, rfl, rfl, r83, ⟨_, rfl, r110⟩⟩⟩⟩ fun p118 H122 np121 c119 r120 => ?_
    have r0 := Ty.ex r0 c119
    have r35 := Ty.ex r35 c119
    have r42 := Ty.ex r42 c119
    have r83 := Ty.ex r83 c119
    have r110 := Ty.ex r110 c119
    have c0 := c0.trans c119.none
    have d123 : Dj ([p33] ++ ([p40] ++ ([p81] ++ F111))) F0 := (Dj.app (d38.symm) ((Dj.app (d45.symm) ((Dj.app (d86.symm) (d113.symm))))))
    obtain rfl := Option.some.inj hm
    exact hQ _ _ _ c0 r120 (app_fresh n39 (app_fresh n47 (app_fresh n89 n117))) r0
abbrev s_l_chart : Stmt := topS 38
abbrev N_l_chart : List Str := ["_law_sea_here", "_law_parts", "_law_chart_here", "_law_part"]
theorem sc_l_chart : FnScope ["_law_sea_here", "_law_parts", "_law_chart_here", "_law_part"] ["_law_sea_here"] (defScope s_l_chart) := ⟨rfl, rfl, rfl, by decide +kernel, rfl, by decide +kernel, by decide +kernel⟩
def sp_l_chart (K : PySem.W.Frag) (C_Chart : Addr) : Sp := fun vs H Q _ => ∃ (v0 : V) (F0 : List Addr) (d0 : ((List Int) × (List (Int × Int)) × (List Int) × (List Int))) (r : (Int × (List Int) × (List (Int × Int)) × (List Int) × (List Int) × (List (List Int)))), vs = [v0] ∧ (yTup (sCons (yLst yInt) (sCons (yLst (yTup (sCons yInt (sOne yInt)))) (sCons (yLst yInt) (sOne (yLst yInt)))))).rep K H F0 v0 d0 ∧ Mi.m_l_chart d0 = some r ∧ ∀ v H', Chg ([]) H H' → (yObj C_Chart nm_Chart ty_Chart).rep K H' [] v r → Q v H'
theorem ok_l_chart (B : Bi mg) (CN : Cs K mg) (D : Dfn K mg "_law_chart" s_l_chart) {C_Chart : Addr} (T_Chart : Tx K mg C_Chart "Chart" nm_Chart) (I_Chart : CalI P w K mg C_Chart "Chart.__init__" s_Chart_init (kw_Chart K) ["self", "depths", "lanes", "tide", "harbours"] 3 (sp_Chart_init K C_Chart)) : Cal P w K mg "_law_chart" ["_law_sea_here"] 5 (sp_l_chart K C_Chart) := by
  obtain ⟨f, fd, F, g⟩ := D.ex
  refine ⟨f, fd, g, F.kp, bindsF F (fun _ _ _ _ _ _ us hl => match us, hl with | [_], _ => rfl), fun base => F.ok sc_l_chart (fun vs H Q E h => ?_) (fun cdv A outer s H0 vs Q E hr h => ?_)⟩
  · obtain ⟨v0, F0, d0, r, rfl, r0, hm, hQ⟩ := h; rfl
  ·
    obtain ⟨v0, F0, d0, r, rfl, r0, hm, hQ⟩ := h
    obtain ⟨fI_Chart, fdI_Chart, MI_Chart, FI_Chart, OI_Chart⟩ := I_Chart.ex
    obtain ⟨mv_kb_Chart_2_tide_harbours, kb_Chart_2_tide_harbours⟩ := FunD.kbinds0 (ps := ["self", "depths", "lanes", "tide", "harbours"]) FI_Chart 3 ["tide", "harbours"] [] (fun us mv ws => permG [0, 1, 2, 3, 4] us mv ws) (by intro z; cases z) (fun q hq => nomatch hq) (fun r1 r2 r3 => permG_rel _ r1 r2 r3) (fun _ _ _ _ _ _ us mv ws h1 h2 h3 => match us, mv, ws, h1, h2, h3 with | [_, _, _], [], [_, _], _, _, _ => rfl)
    refine ⟨_, pss_cons (ps_set (i := 1) sc_l_chart.nd rfl (.inl rfl) (pe_lst (pa_cons (pe_callTy (cl_list (K := K)) (by rfl) B.list (by decide +kernel) (pa_cons (pe_ix (ix_t (K := K)) (pv 0) pe_int (fun _ _ => rfl)) pa_nil)) (pa_cons (pe_callTy (cl_list (K := K)) (by rfl) B.list (by decide +kernel) (pa_cons (pe_ix (ix_t (K := K)) (pv 0) pe_int (fun _ _ => rfl)) pa_nil)) (pa_cons (pe_callTy (cl_list (K := K)) (by rfl) B.list (by decide +kernel) (pa_cons (pe_ix (ix_t (K := K)) (pv 0) pe_int (fun _ _ => rfl)) pa_nil)) (pa_cons (pe_callTy (cl_list (K := K)) (by rfl) B.list (by decide +kernel) (pa_cons (pe_ix (ix_t (K := K)) (pv 0) pe_int (fun _ _ => rfl)) pa_nil)) pa_nil))))))
      (pss_cons (ps_set (i := 2) sc_l_chart.nd rfl (.inl rfl) (pe_makeK MI_Chart (OI_Chart base) (hr.mono (by decide)) (by rfl) T_Chart.mgC kb_Chart_2_tide_harbours pass0 (pa_cons (pe_ix (ix_l (K := K)) (pv 1) pe_int (fun _ _ => rfl)) (pa_cons (pe_ix (ix_l (K := K)) (pv 1) pe_int (fun _ _ => rfl)) pa_nil)) (pk_cons (pe_ix (ix_l (K := K)) (pv 1) pe_int (fun _ _ => rfl)) (pk_cons (pe_ix (ix_l (K := K)) (pv 1) pe_int (fun _ _ => rfl)) pk_nil))))
      (pss_cons (ps_for PassesOwn.never rfl (pi_list (pv 1)) (pg_name (i := 3) sc_l_chart.nd rfl (.inl rfl)) (pss_cons (ps_expr (pe_bm0 PySem.F.plainAttrs_list PySem.F.slot_list_clear PySem.F.type_list_clear mt_clear (pv 3))) pss_nil))
      (pss_cons (ps_ret (pv 2)) pss_nil))), ?_⟩
    have c0 : Chg ([] : List Addr) H0 H0 := Chg.refl H0
    unfold Mi.m_l_chart at hm
    refine q_asg ?_
    refine w_lst ?_
    refine w_cons ?_
    refine w_cb ?_
    obtain ⟨u2, F3, r4, su5, kx6, ku7⟩ := itm_tup (n := 0) at0 r0
    refine w_args (va_cons (ku7 (val_var rfl) val_c) va_nil) ?_
    refine w_listL r4 fun p8 H12 np11 c9 r10 => ?_
    have d13 : Dj F0 [p8] := Ty.nin r0 np11
    have d14 : Dj F3 [p8] := Ty.nin r4 np11
    have n15 : ∀ a ∈ [p8], H0 a = none := one_fresh (c0.dom p8 np11)
    have r0 := Ty.ex r0 c9
    have r4 := Ty.ex r4 c9
    have c0 := c0.trans c9.none
    refine w_cons ?_
    refine w_cb ?_
    obtain ⟨u16, F17, r18, su19, kx20, ku21⟩ := itm_tup (n := 1) (atS at0) r0
    have d22 : Dj F17 [p8] := Dj.sub (d13) su19
    refine w_args (va_cons (ku21 (val_var rfl) val_c) va_nil) ?_
    refine w_listL r18 fun p23 H27 np26 c24 r25 => ?_
    have d28 : Dj F0 [p23] := Ty.nin r0 np26
    have d29 : Dj [p8] [p23] := Ty.nin r10 np26
    have d30 : Dj F17 [p23] := Ty.nin r18 np26
    have n31 : ∀ a ∈ [p23], H0 a = none := one_fresh (c0.dom p23 np26)
    have r0 := Ty.ex r0 c24
    have r10 := Ty.ex r10 c24
    have r18 := Ty.ex r18 c24
    have c0 := c0.trans c24.none
    refine w_cons ?_
    refine w_cb ?_
    obtain ⟨u32, F33, r34, su35, kx36, ku37⟩ := itm_tup (n := 2) (atS (atS at0)) r0
    have d38 : Dj F33 [p8] := Dj.sub (d13) su35
    have d39 : Dj F33 [p23] := Dj.sub (d28) su35
    refine w_args (va_cons (ku37 (val_var rfl) val_c) va_nil) ?_
    refine w_listL r34 fun p40 H44 np43 c41 r42 => ?_
    have d45 : Dj F0 [p40] := Ty.nin r0 np43
    have d46 : Dj [p8] [p40] := Ty.nin r10 np43
    have d47 : Dj [p23] [p40] := Ty.nin r25 np43
    have d48 : Dj F33 [p40] := Ty.nin r34 np43
    have n49 : ∀ a ∈ [p40], H0 a = none := one_fresh (c0.dom p40 np43)
    have r0 := Ty.ex r0 c41
    have r10 := Ty.ex r10 c41
    have r25 := Ty.ex r25 c41
    have r34 := Ty.ex r34 c41
    have c0 := c0.trans c41.none
    refine w_cons ?_
    refine w_cb ?_
    obtain ⟨u50, F51, r52, su53, kx54, ku55⟩ := itm_tup (n := 3) (atS (atS (atS at1))) r0
    have d56 : Dj F51 [p8] := Dj.sub (d13) su53
    have d57 : Dj F51 [p23] := Dj.sub (d28) su53
    have d58 : Dj F51 [p40] := Dj.sub (d45) su53
    refine w_args (va_cons (ku55 (val_var rfl) val_c) va_nil) ?_
    refine w_listL r52 fun p59 H63 np62 c60 r61 => ?_
    have d64 : Dj F0 [p59] := Ty.nin r0 np62
    have d65 : Dj [p8] [p59] := Ty.nin r10 np62
    have d66 : Dj [p23] [p59] := Ty.nin r25 np62
    have d67 : Dj [p40] [p59] := Ty.nin r42 np62
    have d68 : Dj F51 [p59] := Ty.nin r52 np62
    have n69 : ∀ a ∈ [p59], H0 a = none := one_fresh (c0.dom p59 np62)
    have r0 := Ty.ex r0 c60
    have r10 := Ty.ex r10 c60
    have r25 := Ty.ex r25 c60
    have r42 := Ty.ex r42 c60
    have r52 := Ty.ex r52 c60
    have c0 := c0.trans c60.none
    refine w_nil ?_
    refine e_hl (K := K) (ts := (sCons (yLst yInt) (sCons (yLst (yTup (sCons yInt (sOne yInt)))) (sCons (yLst yInt) (sOne (yLst yInt)))))) (G := ([p8] ++ ([p23] ++ ([p40] ++ [p59])))) (d := (d0.1, d0.2.1, d0.2.2.1, d0.2.2.2)) (by exact Nat.le_of_ble_eq_true rfl) ⟨_, _, _, _, rfl, rfl, r10, ⟨_, _, _, _, rfl, rfl, r25, ⟨_, _, _, _, rfl, rfl, r42, ⟨_, rfl, r61⟩⟩⟩⟩ fun p70 H74 np73 c71 r72 => ?_
    have d75 : Dj F0 (p70 :: ([p8] ++ ([p23] ++ ([p40] ++ [p59])))) := Dj.consR (Ty.nin r0 np73) (Dj.symm (Dj.app (Dj.symm (d13)) (Dj.symm (Dj.symm (Dj.app (Dj.symm (d28)) (Dj.symm (Dj.symm (Dj.app (Dj.symm (d45)) (Dj.symm (d64))))))))))
    have n76 : ∀ a ∈ (p70 :: ([p8] ++ ([p23] ++ ([p40] ++ [p59])))), H0 a = none := fresh_cons (c0.dom p70 np73) (app_fresh n15 (app_fresh n31 (app_fresh n49 n69)))
    have r0 := Ty.ex r0 c71
    have r10 := Ty.ex r10 c71
    have r25 := Ty.ex r25 c71
    have r42 := Ty.ex r42 c71
    have r61 := Ty.ex r61 c71
    have c0 := c0.trans c71.none
    refine g_name (σ' := [some v0, some (.ref p70), none, none]) rfl ?_
    refine q_asg ?_
    refine w_makeK ?_
    obtain ⟨u77, F78, r79, su80, kx81, ku82⟩ := itm_hl (n := 0) at0 r72
    have d83 : Dj F78 F0 := Dj.sub (d75.symm) su80
    have n84 : ∀ a ∈ F78, H0 a = none := fun a h => n76 a (su80 a h)
    obtain ⟨u85, F86, r87, su88, kx89, ku90⟩ := itm_hl (n := 1) (atS at0) r72
    have d91 : Dj F86 F0 := Dj.sub (d75.symm) su88
    have n92 : ∀ a ∈ F86, H0 a = none := fun a h => n76 a (su88 a h)
    refine w_args (va_cons (ku82 (val_var rfl) val_c) (va_cons (ku90 (val_var rfl) val_c) va_nil)) ?_
    obtain ⟨u93, F94, r95, su96, kx97, ku98⟩ := itm_hl (n := 2) (atS (atS at0)) r72
    have d99 : Dj F94 F0 := Dj.sub (d75.symm) su96
    have n100 : ∀ a ∈ F94, H0 a = none := fun a h => n76 a (su96 a h)
    obtain ⟨u101, F102, r103, su104, kx105, ku106⟩ := itm_hl (n := 3) (atS (atS (atS at1))) r72
    have d107 : Dj F102 F0 := Dj.sub (d75.symm) su104
    have n108 : ∀ a ∈ F102, H0 a = none := fun a h => n76 a (su104 a h)
    refine w_args (va_cons (ku98 (val_var rfl) val_c) (va_cons (ku106 (val_var rfl) val_c) va_nil)) ?_
    refine ⟨rfl, rfl, ?_⟩
    intro p109 dx110 nx111 ndx112 nex113
    have d114 : Dj F0 [p109] := Ty.nin r0 nx111
    have d115 : Dj (p70 :: ([p8] ++ ([p23] ++ ([p40] ++ [p59])))) [p109] := Ty.nin r72 nx111
    have d116 : Dj F78 [p109] := Ty.nin r79 nx111
    have d117 : Dj F86 [p109] := Ty.nin r87 nx111
    have d118 : Dj F94 [p109] := Ty.nin r95 nx111
    have d119 : Dj F102 [p109] := Ty.nin r103 nx111
    have n120 : ∀ a ∈ [p109], H0 a = none := one_fresh (c0.dom p109 nx111)
    obtain ⟨c121, r122⟩ := make_new (K := K) (C := C_Chart) nx111 ndx112 nex113
    have r0 := Ty.ex r0 c121
    have r72 := Ty.ex r72 c121
    have r79 := Ty.ex r79 c121
    have r87 := Ty.ex r87 c121
    have r95 := Ty.ex r95 c121
    have r103 := Ty.ex r103 c121
    have c0 := c0.trans c121.none
    obtain ⟨q123, hq123, hm⟩ := Mi.bnd hm
    refine ⟨p109, dx110, u77, F78, (d0.1, d0.2.1, d0.2.2.1, d0.2.2.2).1, u85, F86, (d0.1, d0.2.1, d0.2.2.1, d0.2.2.2).2.1, u93, F94, (d0.1, d0.2.1, d0.2.2.1, d0.2.2.2).2.2.1, u101, F102, (d0.1, d0.2.1, d0.2.2.1, d0.2.2.2).2.2.2, q123, rfl, r122, r79, r87, r95, r103, d116.symm, d117.symm, d118.symm, d119.symm, hq123, fun H125 c124 r126 => ⟨rfl, ?_⟩⟩
    have r0 := Ty.chg r0 c124 d114
    have r72 := Ty.chg r72 c124 d115
    have c0 := c0.join c124 (fun a h => .inr (n120 a h))
    refine g_name (σ' := [some v0, some (.ref p70), some (.ref p109), none]) rfl ?_
    refine q_for ?_
    refine w_iList ?_
    refine c_val (val_var rfl) ?_
    refine l_clear (s := 3) (als_cons (als_cons (als_cons als_one))) r72 (by exact Nat.le_of_ble_eq_true rfl) (fun D σ H p xs hs hp k => q_drop (w_bm0 (c_val (val_var hs) ⟨.inl ⟨rfl, _, .inl (.inl hp)⟩, ⟨p, xs, rfl, rfl, hp, w_next k⟩⟩))) (fun σ' H128 c127 hσ => ?_)
    obtain ⟨y129, rfl⟩ := hσ
    have r0 := Ty.chg r0 c127 d75
    have r126 := Ty.fz r126 c127
    have c0 := c0.join c127 (fun a h => .inr (n76 a h))
    refine st_eq (σ' := [some v0, some (.ref p70), some (.ref p109), y129]) rfl ?_
    refine q_ret ?_
    refine c_val (val_var rfl) ?_
    obtain rfl := Option.some.inj hm
    exact hQ _ _ c0 r126 
abbrev s_l_touches : Stmt := topS 39
abbrev N_l_touches : List Str := ["_law_sea_here", "_law_here", "_law_place", "_law_pair"]
theorem sc_l_touches : FnScope ["_law_sea_here", "_law_here", "_law_place", "_law_pair"] ["_law_sea_here", "_law_here", "_law_place"] (defScope s_l_touches) := ⟨rfl, rfl, rfl, by decide +kernel, rfl, by decide +kernel, by decide +kernel⟩
def sp_l_touches (K : PySem.W.Frag) : Sp := fun vs H Q _ => ∃ (v0 : V) (F0 : List Addr) (d0 : ((List Int) × (List (Int × Int)) × (List Int) × (List Int))) (v1 : V) (F1 : List Addr) (d1 : (List Int)) (d2 : Int) (r : Bool), vs = [v0, v1, (.int d2)] ∧ (yTup (sCons (yLst yInt) (sCons (yLst (yTup (sCons yInt (sOne yInt)))) (sCons (yLst yInt) (sOne (yLst yInt)))))).rep K H F0 v0 d0 ∧ (yLst yInt).rep K H F1 v1 d1 ∧ Mi.m_l_touches d0 d1 d2 = some r ∧ ∀ H', Chg ([]) H H' → Q (.bl r) H'
theorem ok_l_touches (B : Bi mg) (CN : Cs K mg) (D : Dfn K mg "_law_touches" s_l_touches)  : Cal P w K mg "_law_touches" ["_law_sea_here", "_law_here", "_law_place"] 1 (sp_l_touches K) := by
  obtain ⟨f, fd, F, g⟩ := D.ex
  refine ⟨f, fd, g, F.kp, bindsF F (fun _ _ _ _ _ _ us hl => match us, hl with | [_, _, _], _ => rfl), fun base => F.ok sc_l_touches (fun vs H Q E h => ?_) (fun cdv A outer s H0 vs Q E hr h => ?_)⟩
  · obtain ⟨v0, F0, d0, v1, F1, d1, d2, r, rfl, r0, r1, hm, hQ⟩ := h; rfl
  ·
    obtain ⟨v0, F0, d0, v1, F1, d1, d2, r, rfl, r0, r1, hm, hQ⟩ := h
    refine ⟨_, pss_cons (ps_for PassesOwn.never rfl (pi_list (pe_ix (ix_t (K := K)) (pv 0) pe_int (fun _ _ => rfl))) (pg_name (i := 3) sc_l_touches.nd rfl (.inl rfl)) (pss_cons (ps_if (PW.pt (pw_and (pt_cmpR op_eq (pe_ix (ix_t (K := K)) (pv 3) pe_int (fun _ _ => rfl)) (pv 2) (nomark _)) (pw_and1 (pt_cmpR (op_in_q (K := K)) (pe_ix (ix_t (K := K)) (pv 3) pe_int (fun _ _ => rfl)) (pv 1) (by rfl))))) (pss_cons (ps_ret pe_bl) pss_nil) (pss_nil))
      (pss_cons (ps_if (PW.pt (pw_and (pt_cmpR op_eq (pe_ix (ix_t (K := K)) (pv 3) pe_int (fun _ _ => rfl)) (pv 2) (nomark _)) (pw_and1 (pt_cmpR (op_in_q (K := K)) (pe_ix (ix_t (K := K)) (pv 3) pe_int (fun _ _ => rfl)) (pv 1) (by rfl))))) (pss_cons (ps_ret pe_bl) pss_nil) (pss_nil))
      (pss_nil))))
      (pss_cons (ps_ret pe_bl) pss_nil), ?_⟩
    have c0 : Chg ([] : List Addr) H0 H0 := Chg.refl H0
    unfold Mi.m_l_touches at hm
    refine q_for ?_
    refine w_iList ?_
    obtain ⟨u4, F5, r6, su7, kx8, ku9⟩ := itm_tup (n := 1) (atS at0) r0
    refine c_val (ku9 (val_var rfl) val_c) ?_
    obtain ⟨e10, he10, hm⟩ := Mi.bnd hm
    refine l_lst r6 (fun i σ' H' => ∃ (s11 : Unit) (y12 : Option V), σ' = [some v0, some v1, some (.int d2), y12] ∧ Chg ([] : List Addr) H0 H' ∧ (yTup (sCons (yLst yInt) (sCons (yLst (yTup (sCons yInt (sOne yInt)))) (sCons (yLst yInt) (sOne (yLst yInt)))))).rep K H' F0 v0 d0 ∧ (yLst yInt).rep K H' F1 v1 d1 ∧ (yLst (yTup (sCons yInt (sOne yInt)))).rep K H' F5 u4 d0.2.1 ∧ Mi.forR (Mi.m_l_touches_b1 d1 d2) s11 (List.drop i d0.2.1) = some e10) ⟨(), none, rfl, c0, r0, r1, r6, he10⟩ (fun i σ' H' hp => by obtain ⟨s11, y12, rfl, c0, r0, r1, r6, _⟩ := hp; exact r6) (fun i15 x14 u16 σ' H' hx13 r17 hp => ?_) (fun σ' H' hp => ?_)
    ·
      obtain ⟨s11, y12, rfl, c0, r0, r1, r6, hle10⟩ := hp
      obtain ⟨o18, hbe10, hore10⟩ := Mi.forR_go hle10 hx13
      unfold Mi.m_l_touches_b1 at hbe10
      refine g_name (σ' := [some v0, some v1, some (.int d2), some u16]) rfl ?_
      obtain ⟨u19, F20, r21, su22, kx23, ku24⟩ := itm_tup (n := 0) at0 r17
      obtain ⟨rfl, rfl⟩ := r21
      obtain ⟨u26, F27, r28, su29, kx30, ku31⟩ := itm_tup (n := 1) (atS at1) r17
      obtain ⟨rfl, rfl⟩ := r28
      refine q_if (ans_andB (ans_t (val_eqI (ku24 (val_var rfl) val_c) (val_var rfl))) (fun _ => (ans_t (val_inL r1 (ku31 (val_var rfl) val_c) (val_var rfl))))) (fun hb => ?_) (fun hb => ?_)
      ·
        replace hbe10 := Mi.ifT hb hbe10
        refine q_ret ?_
        refine c_val val_c ?_
        obtain rfl := Option.some.inj hbe10
        obtain rfl := Mi.or_inl hore10
        obtain rfl := Option.some.inj (Mi.orR_inl hm)
        exact hQ _ c0 
      replace hbe10 := Mi.ifF hb hbe10
      refine w_fall ?_
      obtain ⟨u32, F33, r34, su35, kx36, ku37⟩ := itm_tup (n := 1) (atS at1) r17
      obtain ⟨rfl, rfl⟩ := r34
      obtain ⟨u39, F40, r41, su42, kx43, ku44⟩ := itm_tup (n := 0) at0 r17
      obtain ⟨rfl, rfl⟩ := r41
      refine q_if (ans_andB (ans_t (val_eqI (ku37 (val_var rfl) val_c) (val_var rfl))) (fun _ => (ans_t (val_inL r1 (ku44 (val_var rfl) val_c) (val_var rfl))))) (fun hb => ?_) (fun hb => ?_)
      ·
        replace hbe10 := Mi.ifT hb hbe10
        refine q_ret ?_
        refine c_val val_c ?_
        obtain rfl := Option.some.inj hbe10
        obtain rfl := Mi.or_inl hore10
        obtain rfl := Option.some.inj (Mi.orR_inl hm)
        exact hQ _ c0 
      replace hbe10 := Mi.ifF hb hbe10
      refine w_fall ?_
      refine w_nextJ ?_
      obtain rfl := Option.some.inj hbe10
      replace hore10 := Mi.or_inr hore10
      exact ⟨_, (some u16), rfl, c0, r0, r1, r6, hore10⟩
    obtain ⟨s11, y12, rfl, c0, r0, r1, r6, hle10⟩ := hp
    obtain rfl := Mi.forR_end hle10
    replace hm := Mi.orR_inr hm
    refine q_ret ?_
    refine c_val val_c ?_
    obtain rfl := Option.some.inj hm
    exact hQ _ c0 
abbrev s_l_thinned : Stmt := topS 40
abbrev N_l_thinned : List Str := ["_law_hand_here", "_law_joins", "_law_kind", "_law_pair"]
theorem sc_l_thinned : FnScope ["_law_hand_here", "_law_joins", "_law_kind", "_law_pair"] ["_law_hand_here", "_law_joins"] (defScope s_l_thinned) := ⟨rfl, rfl, rfl, by decide +kernel, rfl, by decide +kernel, by decide +kernel⟩
def sp_l_thinned (K : PySem.W.Frag) : Sp := fun vs H Q _ => ∃ (v0 : V) (F0 : List Addr) (d0 : (List Int)) (v1 : V) (F1 : List Addr) (d1 : (List (Int × Int))) (r : ((List (Int × Int)) × (List Int))), vs = [v0, v1] ∧ (yLst yInt).rep K H F0 v0 d0 ∧ (yLst (yTup (sCons yInt (sOne yInt)))).rep K H F1 v1 d1 ∧ Dj F0 F1 ∧ Mi.m_l_thinned d0 d1 = some r ∧ ∀ v H' F, Chg (F0) H H' → (yLst (yTup (sCons yInt (sOne yInt)))).rep K H' F v r.1 → (∀ a ∈ F, H a = none) → (yLst yInt).rep K H' F0 v0 r.2 → Q v H'
theorem ok_l_thinned (B : Bi mg) (CN : Cs K mg) (D : Dfn K mg "_law_thinned" s_l_thinned) (C_l_pick : Cal P w K mg "_law_pick" ["_law_hand_here", "_law_size"] 1 (sp_l_pick K)) : Cal P w K mg "_law_thinned" ["_law_hand_here", "_law_joins"] 2 (sp_l_thinned K) := by
  obtain ⟨f, fd, F, g⟩ := D.ex
  refine ⟨f, fd, g, F.kp, bindsF F (fun _ _ _ _ _ _ us hl => match us, hl with | [_, _], _ => rfl), fun base => F.ok sc_l_thinned (fun vs H Q E h => ?_) (fun cdv A outer s H0 vs Q E hr h => ?_)⟩
  · obtain ⟨v0, F0, d0, v1, F1, d1, r, rfl, r0, r1, dd0_1, hm, hQ⟩ := h; rfl
  ·
    obtain ⟨v0, F0, d0, v1, F1, d1, r, rfl, r0, r1, dd0_1, hm, hQ⟩ := h
    refine ⟨_, pss_cons (ps_set (i := 2) sc_l_thinned.nd rfl (.inl rfl) (pe_cc C_l_pick hr (pa_cons (pv 0) (pa_cons pe_int pa_nil))))
      (pss_cons (ps_if (pt_cmpR op_eq (pv 2) pe_int (nomark _)) (pss_cons (ps_ret (pe_lc (own := [("_law_pair", 3)]) rfl sc_l_thinned.nd (pi_list (pv 1)) (blkOk_by (own := [("_law_pair", 3)]) (N := N_l_thinned) (sc := defScope s_l_thinned) (by decide +kernel)) (fun _ _ _ _ _ => (pg_name (i := 3) sc_l_thinned.nd rfl (.inl rfl))) (fun _ _ _ _ _ => (pts_one (pt_cmpR op_eq (pe_ix (ix_t (K := K)) (pv 3) pe_int (fun _ _ => rfl)) (pe_op op_add (pe_ix (ix_t (K := K)) (pv 3) pe_int (fun _ _ => rfl)) pe_int) (nomark _)))) (fun _ _ _ _ _ => (pv 3)))) pss_nil) (pss_nil))
      (pss_cons (ps_if (pt_cmpR op_eq (pv 2) pe_int (nomark _)) (pss_cons (ps_ret (pe_lc (own := [("_law_pair", 3)]) rfl sc_l_thinned.nd (pi_list (pv 1)) (blkOk_by (own := [("_law_pair", 3)]) (N := N_l_thinned) (sc := defScope s_l_thinned) (by decide +kernel)) (fun _ _ _ _ _ => (pg_name (i := 3) sc_l_thinned.nd rfl (.inl rfl))) (fun _ _ _ _ _ => (pts_one (pt_cmpR op_eq (pe_ix (ix_t (K := K)) (pv 3) pe_int (fun _ _ => rfl)) (pe_op op_fdiv (pe_ix (ix_t (K := K)) (pv 3) pe_int (fun _ _ => rfl)) pe_int) (nomark _)))) (fun _ _ _ _ _ => (pv 3)))) pss_nil) (pss_nil))
      (pss_cons (ps_if (pt_cmpR op_eq (pv 2) pe_int (nomark _)) (pss_cons (ps_ret (pe_lc (own := [("_law_pair", 3)]) rfl sc_l_thinned.nd (pi_list (pv 1)) (blkOk_by (own := [("_law_pair", 3)]) (N := N_l_thinned) (sc := defScope s_l_thinned) (by decide +kernel)) (fun _ _ _ _ _ => (pg_name (i := 3) sc_l_thinned.nd rfl (.inl rfl))) (fun _ _ _ _ _ => (pts_one (pt_cmpR op_eq (pe_cc C_l_pick hr (pa_cons (pv 0) (pa_cons pe_int pa_nil))) pe_int (nomark _)))) (fun _ _ _ _ _ => (pv 3)))) pss_nil) (pss_nil))
      (pss_cons (ps_ret (pe_callTy (cl_list (K := K)) (by rfl) B.list (by decide +kernel) (pa_cons (pv 1) pa_nil))) pss_nil)))), ?_⟩
    have c0 : Chg (F0) H0 H0 := Chg.refl H0
    unfold Mi.m_l_thinned at hm
    refine q_asg ?_
    refine w_call ?_
    refine w_args (va_cons (val_var rfl) (va_cons val_c va_nil)) ?_
    obtain ⟨q3, hq3, hm⟩ := Mi.bnd hm
    refine ⟨v0, F0, d0, (4 : Int), q3, rfl, r0, hq3, fun H5 c4 r0 => ?_⟩
    have r1 := Ty.chg r1 c4 dd0_1.symm
    have c0 := c0.join c4 (fun a h => .inl (h))
    refine g_name (σ' := [some v0, some v1, some (.int q3.1), none]) rfl ?_
    refine q_if (ans_t (val_eqI (val_var rfl) val_c)) (fun hb => ?_) (fun hb => ?_)
    ·
      replace hm := Mi.ifT hb hm
      refine q_ret ?_
      refine w_lc ?_
      refine w_iList ?_
      refine c_val (val_var rfl) ?_
      obtain ⟨e6, he6, hm⟩ := Mi.bnd hm
      refine kc_lst (K := K) (τ := (yTup (sCons yInt (sOne yInt)))) r1 (fun D8 i H' => ∃ (s7 : (List (Int × Int))), Chg (F0) H0 H' ∧ (yLst yInt).rep K H' F0 v0 q3.2 ∧ (yLst (yTup (sCons yInt (sOne yInt)))).rep K H' F1 v1 d1 ∧ (yLst (yTup (sCons yInt (sOne yInt)))).rep K H' [D8] (.ref D8) s7 ∧ Dj F0 [D8] ∧ Dj F1 [D8] ∧ (∀ a ∈ [D8], H0 a = none) ∧ Mi.forN (Mi.m_l_thinned_b1) s7 (List.drop i d1) = some e6) (fun D8 H16 np15 c14 r9 => ⟨([] : (List (Int × Int))), c0.trans c14.none, (Ty.ex r0 c14), (Ty.ex r1 c14), r9, Ty.nin r0 np15, Ty.nin r1 np15, one_fresh (c0.dom D8 np15), he6⟩) (fun D8 i H' hp => by obtain ⟨s7, c0, r0, r1, r9, d10, d11, n13, _⟩ := hp; exact r1) (fun D8 i19 x18 u21 H20 hx17 r22 hp => ?_) (fun D8 H' np15 hp => ?_)
      ·
        obtain ⟨s7, c0, r0, r1, r9, d10, d11, n13, hle6⟩ := hp
        obtain ⟨_, hbe6, hle6⟩ := Mi.forN_go hle6 hx17
        unfold Mi.m_l_thinned_b1 at hbe6
        refine g_name (σ' := [some v0, some v1, some (.int q3.1), some u21]) rfl ?_
        refine ⟨rfl, ?_⟩
        obtain ⟨u27, F28, r29, su30, kx31, ku32⟩ := itm_tup (n := 1) (atS at1) r22
        obtain ⟨rfl, rfl⟩ := r29
        obtain ⟨u33, F34, r35, su36, kx37, ku38⟩ := itm_tup (n := 0) at0 r22
        obtain ⟨rfl, rfl⟩ := r35
        refine c_ans (ans_t (val_eqI (ku32 (val_var rfl) val_c) (val_add (ku38 (val_var rfl) val_c) val_c))) ?_
        refine c_if (fun hb => ?_) (fun hb => ?_)
        ·
          replace hbe6 := Mi.ifT hb hbe6
          refine c_val (val_var rfl) ?_
          obtain ⟨x39, hx39, hbe6⟩ := Mi.bnd hbe6
          refine e_app r9 r22 hx39 fun H41 c40 r9 => ?_
          have r0 := Ty.chg r0 c40 d10
          have r1 := Ty.chg r1 c40 d11
          have r22 := Ty.fz r22 c40
          have c0 := c0.join c40 (fun a h => .inr (n13 a h))
          obtain rfl := Option.some.inj hbe6
          exact ⟨x39, c0, r0, r1, r9, d10, d11, n13, hle6⟩
        ·
          replace hbe6 := Mi.ifF hb hbe6
          obtain rfl := Option.some.inj hbe6
          exact ⟨s7, c0, r0, r1, r9, d10, d11, n13, hle6⟩
      obtain ⟨s7, c0, r0, r1, r9, d10, d11, n13, hle6⟩ := hp
      obtain rfl := Mi.forN_end hle6
      obtain rfl := Option.some.inj hm
      exact hQ _ _ _ c0 r9 n13 r0
    replace hm := Mi.ifF hb hm
    refine w_fall ?_
    refine q_if (ans_t (val_eqI (val_var rfl) val_c)) (fun hb => ?_) (fun hb => ?_)
    ·
      replace hm := Mi.ifT hb hm
      refine q_ret ?_
      refine w_lc ?_
      refine w_iList ?_
      refine c_val (val_var rfl) ?_
      obtain ⟨e42, he42, hm⟩ := Mi.bnd hm
      refine kc_lst (K := K) (τ := (yTup (sCons yInt (sOne yInt)))) r1 (fun D44 i H' => ∃ (s43 : (List (Int × Int))), Chg (F0) H0 H' ∧ (yLst yInt).rep K H' F0 v0 q3.2 ∧ (yLst (yTup (sCons yInt (sOne yInt)))).rep K H' F1 v1 d1 ∧ (yLst (yTup (sCons yInt (sOne yInt)))).rep K H' [D44] (.ref D44) s43 ∧ Dj F0 [D44] ∧ Dj F1 [D44] ∧ (∀ a ∈ [D44], H0 a = none) ∧ Mi.forN (Mi.m_l_thinned_b2) s43 (List.drop i d1) = some e42) (fun D44 H52 np51 c50 r45 => ⟨([] : (List (Int × Int))), c0.trans c50.none, (Ty.ex r0 c50), (Ty.ex r1 c50), r45, Ty.nin r0 np51, Ty.nin r1 np51, one_fresh (c0.dom D44 np51), he42⟩) (fun D44 i H' hp => by obtain ⟨s43, c0, r0, r1, r45, d46, d47, n49, _⟩ := hp; exact r1) (fun D44 i55 x54 u57 H56 hx53 r58 hp => ?_) (fun D44 H' np51 hp => ?_)
      ·
        obtain ⟨s43, c0, r0, r1, r45, d46, d47, n49, hle42⟩ := hp
        obtain ⟨_, hbe42, hle42⟩ := Mi.forN_go hle42 hx53
        unfold Mi.m_l_thinned_b2 at hbe42
        refine g_name (σ' := [some v0, some v1, some (.int q3.1), some u57]) rfl ?_
        refine ⟨rfl, ?_⟩
        obtain ⟨u63, F64, r65, su66, kx67, ku68⟩ := itm_tup (n := 0) at0 r58
        obtain ⟨rfl, rfl⟩ := r65
        obtain ⟨u69, F70, r71, su72, kx73, ku74⟩ := itm_tup (n := 1) (atS at1) r58
        obtain ⟨rfl, rfl⟩ := r71
        refine c_ans (ans_t (val_eqI (ku68 (val_var rfl) val_c) (val_divc (ku74 (val_var rfl) val_c) val_c ⟨by decide, by decide⟩))) ?_
        refine c_if (fun hb => ?_) (fun hb => ?_)
        ·
          replace hbe42 := Mi.ifT hb hbe42
          refine c_val (val_var rfl) ?_
          obtain ⟨x75, hx75, hbe42⟩ := Mi.bnd hbe42
          refine e_app r45 r58 hx75 fun H77 c76 r45 => ?_
          have r0 := Ty.chg r0 c76 d46
          have r1 := Ty.chg r1 c76 d47
          have r58 := Ty.fz r58 c76
          have c0 := c0.join c76 (fun a h => .inr (n49 a h))
          obtain rfl := Option.some.inj hbe42
          exact ⟨x75, c0, r0, r1, r45, d46, d47, n49, hle42⟩
        ·
          replace hbe42 := Mi.ifF hb hbe42
          obtain rfl := Option.some.inj hbe42
          exact ⟨s43, c0, r0, r1, r45, d46, d47, n49, hle42⟩
      obtain ⟨s43, c0, r0, r1, r45, d46, d47, n49, hle42⟩ := hp
      obtain rfl := Mi.forN_end hle42
      obtain rfl := Option.some.inj hm
      exact hQ _ _ _ c0 r45 n49 r0
    replace hm := Mi.ifF hb hm
    refine w_fall ?_
    refine q_if (ans_t (val_eqI (val_var rfl) val_c)) (fun hb => ?_) (fun hb => ?_)
    ·
      replace hm := Mi.ifT hb hm
      refine q_ret ?_
      refine w_lc ?_
      refine w_iList ?_
      refine c_val (val_var rfl) ?_
      obtain ⟨e78, he78, hm⟩ := Mi.bnd hm
      refine kc_lst (K := K) (τ := (yTup (sCons yInt (sOne yInt)))) r1 (fun D80 i H' => ∃ (s79 : ((List (Int × Int)) × (List Int))), Chg (F0) H0 H' ∧ (yLst yInt).rep K H' F0 v0 s79.2 ∧ (yLst (yTup (sCons yInt (sOne yInt)))).rep K H' F1 v1 d1 ∧ (yLst (yTup (sCons yInt (sOne yInt)))).rep K H' [D80] (.ref D80) s79.1 ∧ Dj F0 [D80] ∧ Dj F1 [D80] ∧ (∀ a ∈ [D80], H0 a = none) ∧ Mi.forN (Mi.m_l_thinned_b3) s79 (List.drop i d1) = some e78) (fun D80 H88 np87 c86 r81 => ⟨(([] : (List (Int × Int))), q3.2), c0.trans c86.none, (Ty.ex r0 c86), (Ty.ex r1 c86), r81, Ty.nin r0 np87, Ty.nin r1 np87, one_fresh (c0.dom D80 np87), he78⟩) (fun D80 i H' hp => by obtain ⟨s79, c0, r0, r1, r81, d82, d83, n85, _⟩ := hp; exact r1) (fun D80 i91 x90 u93 H92 hx89 r94 hp => ?_) (fun D80 H' np87 hp => ?_)
      ·
        obtain ⟨s79, c0, r0, r1, r81, d82, d83, n85, hle78⟩ := hp
        obtain ⟨_, hbe78, hle78⟩ := Mi.forN_go hle78 hx89
        unfold Mi.m_l_thinned_b3 at hbe78
        refine g_name (σ' := [some v0, some v1, some (.int q3.1), some u93]) rfl ?_
        refine ⟨rfl, ?_⟩
        refine w_test ?_
        refine w_op ?_
        refine w_call ?_
        refine w_args (va_cons (val_var rfl) (va_cons val_c va_nil)) ?_
        obtain ⟨q99, hq99, hbe78⟩ := Mi.bnd hbe78
        refine ⟨v0, F0, s79.2, (3 : Int), q99, rfl, r0, hq99, fun H101 c100 r0 => ?_⟩
        have r1 := Ty.chg r1 c100 dd0_1.symm
        have r94 := Ty.fz r94 c100
        have r81 := Ty.chg r81 c100 d82.symm
        have c0 := c0.join c100 (fun a h => .inl (h))
        refine c_val val_c ?_
        refine w_eqI ?_
        refine ⟨_, rfl, ?_⟩
        refine c_if (fun hb => ?_) (fun hb => ?_)
        ·
          replace hbe78 := Mi.ifT hb hbe78
          refine c_val (val_var rfl) ?_
          obtain ⟨x102, hx102, hbe78⟩ := Mi.bnd hbe78
          refine e_app r81 r94 hx102 fun H104 c103 r81 => ?_
          have r0 := Ty.chg r0 c103 d82
          have r1 := Ty.chg r1 c103 d83
          have r94 := Ty.fz r94 c103
          have c0 := c0.join c103 (fun a h => .inr (n85 a h))
          obtain rfl := Option.some.inj hbe78
          exact ⟨(x102, q99.2), c0, r0, r1, r81, d82, d83, n85, hle78⟩
        ·
          replace hbe78 := Mi.ifF hb hbe78
          obtain rfl := Option.some.inj hbe78
          exact ⟨(s79.1, q99.2), c0, r0, r1, r81, d82, d83, n85, hle78⟩
      obtain ⟨s79, c0, r0, r1, r81, d82, d83, n85, hle78⟩ := hp
      obtain rfl := Mi.forN_end hle78
      obtain rfl := Option.some.inj hm
      exact hQ _ _ _ c0 r81 n85 r0
    replace hm := Mi.ifF hb hm
    refine w_fall ?_
    refine q_ret ?_
    refine w_cb ?_
    refine w_args (va_cons (val_var rfl) va_nil) ?_
    refine w_listL r1 fun p105 H109 np108 c106 r107 => ?_
    have d110 : Dj F0 [p105] := Ty.nin r0 np108
    have d111 : Dj F1 [p105] := Ty.nin r1 np108
    have n112 : ∀ a ∈ [p105], H0 a = none := one_fresh (c0.dom p105 np108)
    have r0 := Ty.ex r0 c106
    have r1 := Ty.ex r1 c106
    have c0 := c0.trans c106.none
    obtain rfl := Option.some.inj hm
    exact hQ _ _ _ c0 r107 n112 r0
abbrev s_l_near : Stmt := topS 41
abbrev N_l_near : List Str := ["_law_sea_here", "_law_place", "_law_far", "_law_here", "_law_turn", "_law_spot"]
theorem sc_l_near : FnScope ["_law_sea_here", "_law_place", "_law_far", "_law_here", "_law_turn", "_law_spot"] ["_law_sea_here", "_law_place", "_law_far"] (defScope s_l_near) := ⟨rfl, rfl, rfl, by decide +kernel, rfl, by decide +kernel, by decide +kernel⟩
def sp_l_near (K : PySem.W.Frag) : Sp := fun vs H Q _ => ∃ (v0 : V) (F0 : List Addr) (d0 : ((List Int) × (List (Int × Int)) × (List Int) × (List Int))) (d1 : Int) (d2 : Int) (r : (List Int)), vs = [v0, (.int d1), (.int d2)] ∧ (yTup (sCons (yLst yInt) (sCons (yLst (yTup (sCons yInt (sOne yInt)))) (sCons (yLst yInt) (sOne (yLst yInt)))))).rep K H F0 v0 d0 ∧ Mi.m_l_near d0 d1 d2 = some r ∧ ∀ v H' F, Chg ([]) H H' → (yLst yInt).rep K H' F v r → (∀ a ∈ F, H a = none) → Q v H'
theorem ok_l_near (B : Bi mg) (CN : Cs K mg) (D : Dfn K mg "_law_near" s_l_near) (C_l_touches : Cal P w K mg "_law_touches" ["_law_sea_here", "_law_here", "_law_place"] 1 (sp_l_touches K)) : Cal P w K mg "_law_near" ["_law_sea_here", "_law_place", "_law_far"] 2 (sp_l_near K) := by
  obtain ⟨f, fd, F, g⟩ := D.ex
  refine ⟨f, fd, g, F.kp, bindsF F (fun _ _ _ _ _ _ us hl => match us, hl with | [_, _, _], _ => rfl), fun base => F.ok sc_l_near (fun vs H Q E h => ?_) (fun cdv A outer s H0 vs Q E hr h => ?_)⟩
  · obtain ⟨v0, F0, d0, d1, d2, r, rfl, r0, hm, hQ⟩ := h; rfl
  ·
    obtain ⟨v0, F0, d0, d1, d2, r, rfl, r0, hm, hQ⟩ := h
    refine ⟨_, pss_cons (ps_set (i := 3) sc_l_near.nd rfl (.inr rfl) (pe_lst (pa_cons (pv 1) pa_nil)))
      (pss_cons (ps_for PassesOwn.never rfl (pi_range1 (by rfl) B.range (pa_cons (pv 2) pa_nil)) (pg_name (i := 4) sc_l_near.nd rfl (.inl rfl)) (pss_cons (ps_set (i := 3) sc_l_near.nd rfl (.inr rfl) (pe_lc (own := [("_law_spot", 5)]) rfl sc_l_near.nd (pi_range1 (by rfl) B.range (pa_cons (pe_callB (cl_len (K := K)) (by rfl) B.len PySem.boot_len (pa_cons (pe_ix (ix_t (K := K)) (pv 0) pe_int (fun _ _ => rfl)) pa_nil)) pa_nil)) (blkOk_by (own := [("_law_spot", 5)]) (N := N_l_near) (sc := defScope s_l_near) (by decide +kernel)) (fun _ _ _ _ _ => (pg_name (i := 5) sc_l_near.nd rfl (.inl rfl))) (fun _ _ _ _ _ => (pts_one (PW.pt (pw_or (pt_cmpR (op_in_q (K := K)) (pv 5) (pv 3) (by rfl)) (pw_or1 (pt_val (pe_cc C_l_touches hr (pa_cons (pv 0) (pa_cons (pv 3) (pa_cons (pv 5) pa_nil)))))))))) (fun _ _ _ _ _ => (pv 5))))
      (pss_nil)))
      (pss_cons (ps_ret (pv 3)) pss_nil)), ?_⟩
    have c0 : Chg ([] : List Addr) H0 H0 := Chg.refl H0
    unfold Mi.m_l_near at hm
    refine q_asg ?_
    refine w_lst ?_
    refine w_args (va_cons (val_var rfl) va_nil) ?_
    refine e_lst (K := K) (τ := yInt) (by exact Nat.le_of_ble_eq_true rfl) (.cons yInt_i .nil) fun p4 H8 np7 c5 r6 => ?_
    have d9 : Dj F0 [p4] := Ty.nin r0 np7
    have n10 : ∀ a ∈ [p4], H0 a = none := one_fresh (c0.dom p4 np7)
    have r0 := Ty.ex r0 c5
    have c0 := c0.trans c5.none
    refine g_name (σ' := [some v0, some (.int d1), some (.int d2), some (.ref p4), none, none]) rfl ?_
    refine q_for ?_
    refine w_iRng1 ?_
    refine w_args (va_cons (val_var rfl) va_nil) ?_
    obtain ⟨g11, hg11, hm⟩ := Mi.bnd hm
    obtain ⟨e12, he12, hm⟩ := Mi.bnd hm
    refine l_rng1 hg11 (fun i σ' H' => ∃ (s13 : (List Int)) (y18 : Option V) (v14 : V) (F16 : List Addr), σ' = [some v0, some (.int d1), some (.int d2), some v14, y18, none] ∧ Chg ([] : List Addr) H0 H' ∧ (yTup (sCons (yLst yInt) (sCons (yLst (yTup (sCons yInt (sOne yInt)))) (sCons (yLst yInt) (sOne (yLst yInt)))))).rep K H' F0 v0 d0 ∧ (yLst yInt).rep K H' F16 v14 s13 ∧ (∀ a ∈ F16, H0 a = none) ∧ Dj F16 F0 ∧ Mi.forN (Mi.m_l_near_b1 d0) s13 (List.drop i g11) = some e12) ⟨[d1], none, (.ref p4), [p4], rfl, c0, r0, r6, n10, d9.symm, he12⟩ (fun i22 x21 σ' H' hx20 hp => ?_) (fun σ' H' hp => ?_)
    ·
      obtain ⟨s13, y18, v14, F16, rfl, c0, r0, r15, n17, d19, hle12⟩ := hp
      obtain ⟨_, hbe12, hle12⟩ := Mi.forN_go hle12 hx20
      unfold Mi.m_l_near_b1 at hbe12
      refine g_name (σ' := [some v0, some (.int d1), some (.int d2), some v14, some (.int x21), none]) rfl ?_
      refine q_asg ?_
      refine w_lc ?_
      refine w_iRng1 ?_
      obtain ⟨u23, F24, r25, su26, kx27, ku28⟩ := itm_tup (n := 0) at0 r0
      have d29 : Dj F24 F16 := Dj.sub (d19.symm) su26
      refine w_args (va_cons (val_lenL r25 (ku28 (val_var rfl) val_c)) va_nil) ?_
      obtain ⟨g30, hg30, hbe12⟩ := Mi.bnd hbe12
      obtain ⟨e31, he31, hbe12⟩ := Mi.bnd hbe12
      refine kc_rng1 (K := K) (τ := yInt) hg30 (fun D33 i H' => ∃ (s32 : (List Int)), Chg ([] : List Addr) H0 H' ∧ (yTup (sCons (yLst yInt) (sCons (yLst (yTup (sCons yInt (sOne yInt)))) (sCons (yLst yInt) (sOne (yLst yInt)))))).rep K H' F0 v0 d0 ∧ (yLst yInt).rep K H' F16 v14 s13 ∧ (yLst yInt).rep K H' [D33] (.ref D33) s32 ∧ Dj F0 [D33] ∧ Dj F16 [D33] ∧ (∀ a ∈ [D33], H0 a = none) ∧ Mi.forN (Mi.m_l_near_b2 d0 s13) s32 (List.drop i g30) = some e31) (fun D33 H41 np40 c39 r34 => ⟨([] : (List Int)), c0.trans c39.none, (Ty.ex r0 c39), (Ty.ex r15 c39), r34, Ty.nin r0 np40, Ty.nin r15 np40, one_fresh (c0.dom D33 np40), he31⟩) (fun D33 i44 x43 H45 hx42 hp => ?_) (fun D33 H' np40 hp => ?_)
      ·
        obtain ⟨s32, c0, r0, r15, r34, d35, d36, n38, hle31⟩ := hp
        obtain ⟨_, hbe31, hle31⟩ := Mi.forN_go hle31 hx42
        unfold Mi.m_l_near_b2 at hbe31
        refine g_name (σ' := [some v0, some (.int d1), some (.int d2), some v14, some (.int x21), some (.int x43)]) rfl ?_
        refine ⟨rfl, ?_⟩
        obtain ⟨b52, hb52, hbe31⟩ := Mi.bnd hbe31
        refine j_tt b52 (R := fun H' => Chg ([] : List Addr) H0 H' ∧ (yTup (sCons (yLst yInt) (sCons (yLst (yTup (sCons yInt (sOne yInt)))) (sCons (yLst yInt) (sOne (yLst yInt)))))).rep K H' F0 v0 d0 ∧ (yLst yInt).rep K H' F16 v14 s13 ∧ (yLst yInt).rep K H' [D33] (.ref D33) s32) (fun Q' kq => ?_) (fun H' hj => ?_)
        ·
          refine w_or ?_
          refine c_ans (ans_t (val_inL r15 (val_var rfl) (val_var rfl))) ?_
          refine c_if (fun hb => ?_) (fun hb => ?_)
          ·
            replace hb52 := Mi.ifT hb hb52
            obtain rfl := Option.some.inj hb52
            exact kq _ ⟨c0, r0, r15, r34⟩
          replace hb52 := Mi.ifF hb hb52
          refine w_B ?_
          refine w_call ?_
          refine w_args (va_cons (val_var rfl) (va_cons (val_var rfl) (va_cons (val_var rfl) va_nil))) ?_
          obtain ⟨q53, hq53, hb52⟩ := Mi.bnd hb52
          refine ⟨v0, F0, d0, v14, F16, s13, x43, q53, rfl, r0, r15, hq53, fun H55 c54  => ?_⟩
          have r0 := Ty.ex r0 c54
          have r15 := Ty.ex r15 c54
          have r34 := Ty.ex r34 c54
          have c0 := c0.trans c54.none
          refine ⟨_, rfl, ?_⟩
          obtain rfl := Option.some.inj hb52
          exact kq _ ⟨c0, r0, r15, r34⟩
        obtain ⟨c0, r0, r15, r34⟩ := hj
        refine c_if (fun hb => ?_) (fun hb => ?_)
        ·
          replace hbe31 := Mi.ifT hb hbe31
          refine c_val (val_var rfl) ?_
          obtain ⟨x56, hx56, hbe31⟩ := Mi.bnd hbe31
          refine e_app r34 yInt_i hx56 fun H58 c57 r34 => ?_
          have r0 := Ty.chg r0 c57 d35
          have r15 := Ty.chg r15 c57 d36
          have c0 := c0.join c57 (fun a h => .inr (n38 a h))
          obtain rfl := Option.some.inj hbe31
          exact ⟨x56, c0, r0, r15, r34, d35, d36, n38, hle31⟩
        ·
          replace hbe31 := Mi.ifF hb hbe31
          obtain rfl := Option.some.inj hbe31
          exact ⟨s32, c0, r0, r15, r34, d35, d36, n38, hle31⟩
      obtain ⟨s32, c0, r0, r15, r34, d35, d36, n38, hle31⟩ := hp
      obtain rfl := Mi.forN_end hle31
      refine g_name (σ' := [some v0, some (.int d1), some (.int d2), some (.ref D33), some (.int x21), none]) rfl ?_
      refine w_nextJ ?_
      obtain rfl := Option.some.inj hbe12
      exact ⟨_, (some (.int x21)), (.ref D33), [D33], rfl, c0, r0, r34, n38, d35.symm, hle12⟩
    obtain ⟨s13, y18, v14, F16, rfl, c0, r0, r15, n17, d19, hle12⟩ := hp
    obtain rfl := Mi.forN_end hle12
    refine q_ret ?_
    refine c_val (val_var rfl) ?_
    obtain rfl := Option.some.inj hm
    exact hQ _ _ _ c0 r15 n17 
abbrev s_l_is_zone : Stmt := topS 42
abbrev N_l_is_zone : List Str := ["_law_told", "_law_due", "_law_spot"]
theorem sc_l_is_zone : FnScope ["_law_told", "_law_due", "_law_spot"] ["_law_told", "_law_due"] (defScope s_l_is_zone) := ⟨rfl, rfl, rfl, by decide +kernel, rfl, by decide +kernel, by decide +kernel⟩
def sp_l_is_zone (K : PySem.W.Frag) : Sp := fun vs H Q _ => ∃ (v0 : V) (F0 : List Addr) (d0 : (List Int)) (v1 : V) (F1 : List Addr) (d1 : (List Int)) (r : Bool), vs = [v0, v1] ∧ (yLst yInt).rep K H F0 v0 d0 ∧ (yLst yInt).rep K H F1 v1 d1 ∧ Mi.m_l_is_zone d0 d1 = some r ∧ ∀ H', Chg ([]) H H' → Q (.bl r) H'
theorem ok_l_is_zone (B : Bi mg) (CN : Cs K mg) (D : Dfn K mg "_law_is_zone" s_l_is_zone) (C_l_int : Cal P w K mg "_law_int" ["_law_x"] 1 (sp_l_int K)) : Cal P w K mg "_law_is_zone" ["_law_told", "_law_due"] 2 (sp_l_is_zone K) := by
  obtain ⟨f, fd, F, g⟩ := D.ex
  refine ⟨f, fd, g, F.kp, bindsF F (fun _ _ _ _ _ _ us hl => match us, hl with | [_, _], _ => rfl), fun base => F.ok sc_l_is_zone (fun vs H Q E h => ?_) (fun cdv A outer s H0 vs Q E hr h => ?_)⟩
  · obtain ⟨v0, F0, d0, v1, F1, d1, r, rfl, r0, r1, hm, hQ⟩ := h; rfl
  ·
    obtain ⟨v0, F0, d0, v1, F1, d1, r, rfl, r0, r1, hm, hQ⟩ := h
    refine ⟨_, pss_cons (ps_ret (pe_and (pe_callB (cl_isi (K := K)) (by rfl) B.isinstance (by decide +kernel) (pa_cons (pv 0) (pa_cons (pe_bltn (v := .ty "list") (by rfl) B.list (by decide +kernel) rfl) pa_nil))) (pe_and (pe_cmpR op_eq (pe_callB (cl_len (K := K)) (by rfl) B.len PySem.boot_len (pa_cons (pe_lc (own := [("_law_spot", 2)]) rfl sc_l_is_zone.nd (pi_list (pv 0)) (blkOk_by (own := [("_law_spot", 2)]) (N := N_l_is_zone) (sc := defScope s_l_is_zone) (by decide +kernel)) (fun _ _ _ _ _ => (pg_name (i := 2) sc_l_is_zone.nd rfl (.inl rfl))) (fun _ _ _ _ _ => (pts_one (pt_not (pt_val (pe_cc C_l_int hr (pa_cons (pv 2) pa_nil)))))) (fun _ _ _ _ _ => (pv 2))) pa_nil)) pe_int (nomark _)) (pe_one (pe_cmpR (op_eq_d hr.units) (pv 0) (pv 1) (nomark _)))))) pss_nil, ?_⟩
    have c0 : Chg ([] : List Addr) H0 H0 := Chg.refl H0
    unfold Mi.m_l_is_zone at hm
    refine q_ret ?_
    obtain ⟨b3, hb3, hm⟩ := Mi.bnd hm
    refine j_te (.bl b3) (R := fun H' => Chg ([] : List Addr) H0 H' ∧ (yLst yInt).rep K H' F0 v0 d0 ∧ (yLst yInt).rep K H' F1 v1 d1) (fun Q' kq => ?_) (fun H' hj => ?_)
    ·
      refine w_andV ?_
      refine c_val (val_isi (val_var rfl) (ty_lst r0) (n := "list") (m := "list") (b := true) (by decide +kernel)) ?_
      refine ⟨_, rfl, ?_⟩
      refine c_if (fun hb => ?_) (fun hb => ?_)
      rotate_left
      ·
        replace hb3 := Mi.ifF hb hb3
        obtain rfl := Option.some.inj hb3
        exact kq _ ⟨c0, r0, r1⟩
      replace hb3 := Mi.ifT hb hb3
      refine w_andV ?_
      refine w_op ?_
      refine w_cb ?_
      refine w_cons ?_
      refine w_lc ?_
      refine w_iList ?_
      refine c_val (val_var rfl) ?_
      obtain ⟨e4, he4, hb3⟩ := Mi.bnd hb3
      refine kc_lst (K := K) (τ := yInt) r0 (fun D6 i H' => ∃ (s5 : (List Int)), Chg ([] : List Addr) H0 H' ∧ (yLst yInt).rep K H' F0 v0 d0 ∧ (yLst yInt).rep K H' F1 v1 d1 ∧ (yLst yInt).rep K H' [D6] (.ref D6) s5 ∧ Dj F0 [D6] ∧ Dj F1 [D6] ∧ (∀ a ∈ [D6], H0 a = none) ∧ Mi.forN (Mi.m_l_is_zone_b1) s5 (List.drop i d0) = some e4) (fun D6 H14 np13 c12 r7 => ⟨([] : (List Int)), c0.trans c12.none, (Ty.ex r0 c12), (Ty.ex r1 c12), r7, Ty.nin r0 np13, Ty.nin r1 np13, one_fresh (c0.dom D6 np13), he4⟩) (fun D6 i H' hp => by obtain ⟨s5, c0, r0, r1, r7, d8, d9, n11, _⟩ := hp; exact r0) (fun D6 i17 x16 u19 H18 hx15 r20 hp => ?_) (fun D6 H' np13 hp => ?_)
      ·
        obtain ⟨s5, c0, r0, r1, r7, d8, d9, n11, hle4⟩ := hp
        obtain ⟨_, hbe4, hle4⟩ := Mi.forN_go hle4 hx15
        unfold Mi.m_l_is_zone_b1 at hbe4
        obtain ⟨_, rfl⟩ := r20
        refine g_name (σ' := [some v0, some v1, some (.int x16)]) rfl ?_
        refine ⟨rfl, ?_⟩
        refine w_not ?_
        refine w_B ?_
        refine w_call ?_
        refine w_args (va_cons (val_var rfl) va_nil) ?_
        obtain ⟨q25, hq25, hbe4⟩ := Mi.bnd hbe4
        refine Or.inl ⟨x16, q25, rfl, hq25, fun H27 c26  => ?_⟩
        have r0 := Ty.ex r0 c26
        have r1 := Ty.ex r1 c26
        have r7 := Ty.ex r7 c26
        have c0 := c0.trans c26.none
        refine ⟨_, rfl, ?_⟩
        refine c_if (fun hb => ?_) (fun hb => ?_)
        ·
          replace hbe4 := Mi.ifT hb hbe4
          refine c_val (val_var rfl) ?_
          obtain ⟨x28, hx28, hbe4⟩ := Mi.bnd hbe4
          refine e_app r7 yInt_i hx28 fun H30 c29 r7 => ?_
          have r0 := Ty.chg r0 c29 d8
          have r1 := Ty.chg r1 c29 d9
          have c0 := c0.join c29 (fun a h => .inr (n11 a h))
          obtain rfl := Option.some.inj hbe4
          exact ⟨x28, c0, r0, r1, r7, d8, d9, n11, hle4⟩
        ·
          replace hbe4 := Mi.ifF hb hbe4
          obtain rfl := Option.some.inj hbe4
          exact ⟨s5, c0, r0, r1, r7, d8, d9, n11, hle4⟩
      obtain ⟨s5, c0, r0, r1, r7, d8, d9, n11, hle4⟩ := hp
      obtain rfl := Mi.forN_end hle4
      refine w_nil ?_
      refine w_lenL r7 ?_
      refine c_val val_c ?_
      refine w_eqI ?_
      refine ⟨_, rfl, ?_⟩
      refine c_if (fun hb => ?_) (fun hb => ?_)
      rotate_left
      ·
        replace hb3 := Mi.ifF hb hb3
        obtain rfl := Option.some.inj hb3
        exact kq _ ⟨c0, r0, r1⟩
      replace hb3 := Mi.ifT hb hb3
      refine w_op ?_
      refine c_val (val_var rfl) ?_
      refine c_val (val_var rfl) ?_
      refine w_eqD (τ := (yLst yInt)) (dat_lst dat_int) r0 r1 ?_
      obtain rfl := Option.some.inj hb3
      exact kq _ ⟨c0, r0, r1⟩
    obtain ⟨c0, r0, r1⟩ := hj
    obtain rfl := Option.some.inj hm
    exact hQ _ c0 
abbrev s_l_sights_hold : Stmt := topS 43
abbrev N_l_sights_hold : List Str := ["_law_charts", "_law_seas", "_law_light", "_law_place", "_law_far", "_law_due", "_law_told"]
theorem sc_l_sights_hold : FnScope ["_law_charts", "_law_seas", "_law_light", "_law_place", "_law_far", "_law_due", "_law_told"] ["_law_charts", "_law_seas", "_law_light", "_law_place", "_law_far"] (defScope s_l_sights_hold) := ⟨rfl, rfl, rfl, by decide +kernel, rfl, by decide +kernel, by decide +kernel⟩
def sp_l_sights_hold (K : PySem.W.Frag) (C_Light : Addr) (C_Chart : Addr) : Sp := fun vs H Q _ => ∃ (v0 : V) (F0 : List Addr) (d0 : (List (Int × (List Int) × (List (Int × Int)) × (List Int) × (List Int) × (List (List Int))))) (v1 : V) (F1 : List Addr) (d1 : (List ((List Int) × (List (Int × Int)) × (List Int) × (List Int)))) (v2 : V) (d2 : (Int × (List Nat) × Int)) (d3 : Int) (d4 : Int) (r : Bool), vs = [v0, v1, v2, (.int d3), (.int d4)] ∧ (yLst (yObj C_Chart nm_Chart ty_Chart)).rep K H F0 v0 d0 ∧ (yLsg (yTup (sCons (yLst yInt) (sCons (yLst (yTup (sCons yInt (sOne yInt)))) (sCons (yLst yInt) (sOne (yLst yInt))))))).rep K H F1 v1 d1 ∧ (yObj C_Light nm_Light ty_Light).rep K H [] v2 d2 ∧ Mi.m_l_sights_hold d0 d1 d2 d3 d4 = some r ∧ ∀ H', Chg ([]) H H' → Q (.bl r) H'
theorem ok_l_sights_hold (B : Bi mg) (CN : Cs K mg) (D : Dfn K mg "_law_sights_hold" s_l_sights_hold) {C_Light : Addr} (T_Light : Tx K mg C_Light "Light" nm_Light) {C_Chart : Addr} (T_Chart : Tx K mg C_Chart "Chart" nm_Chart) (C_sight_zone : Cal P w K mg "sight_zone" ["chart", "light"] 6 (sp_sight_zone K C_Light C_Chart)) (C_l_near : Cal P w K mg "_law_near" ["_law_sea_here", "_law_place", "_law_far"] 2 (sp_l_near K)) (C_l_is_zone : Cal P w K mg "_law_is_zone" ["_law_told", "_law_due"] 2 (sp_l_is_zone K)) : Cal P w K mg "_law_sights_hold" ["_law_charts", "_law_seas", "_law_light", "_law_place", "_law_far"] 7 (sp_l_sights_hold K C_Light C_Chart) := by
  obtain ⟨f, fd, F, g⟩ := D.ex
  refine ⟨f, fd, g, F.kp, bindsF F (fun _ _ _ _ _ _ us hl => match us, hl with | [_, _, _, _, _], _ => rfl), fun base => F.ok sc_l_sights_hold (fun vs H Q E h => ?_) (fun cdv A outer s H0 vs Q E hr h => ?_)⟩
  · obtain ⟨v0, F0, d0, v1, F1, d1, v2, d2, d3, d4, r, rfl, r0, r1, r2, hm, hQ⟩ := h; rfl
  ·
    obtain ⟨v0, F0, d0, v1, F1, d1, v2, d2, d3, d4, r, rfl, r0, r1, r2, hm, hQ⟩ := h
    refine ⟨_, pss_cons (ps_set (i := 5) sc_l_sights_hold.nd rfl (.inl rfl) (pe_cc C_l_near hr (pa_cons (pe_ix (ix_l (K := K)) (pv 1) pe_int (fun _ _ => rfl)) (pa_cons (pv 3) (pa_cons (pv 4) pa_nil)))))
      (pss_cons (ps_set (i := 6) sc_l_sights_hold.nd rfl (.inl rfl) (pe_cc C_sight_zone hr (pa_cons (pe_ix (ix_l (K := K)) (pv 0) pe_int (fun _ _ => rfl)) (pa_cons (pv 2) pa_nil))))
      (pss_cons (ps_if (pt_not (pt_val (pe_cc C_l_is_zone hr (pa_cons (pv 6) (pa_cons (pv 5) pa_nil))))) (pss_cons (ps_ret pe_bl) pss_nil) (pss_nil))
      (pss_cons (ps_if (pt_not (pt_val (pe_cc C_l_is_zone hr (pa_cons (pe_cc C_sight_zone hr (pa_cons (pe_ix (ix_l (K := K)) (pv 0) pe_int (fun _ _ => rfl)) (pa_cons (pv 2) pa_nil))) (pa_cons (pe_cc C_l_near hr (pa_cons (pe_ix (ix_l (K := K)) (pv 1) pe_int (fun _ _ => rfl)) (pa_cons (pv 3) (pa_cons (pv 4) pa_nil)))) pa_nil))))) (pss_cons (ps_ret pe_bl) pss_nil) (pss_nil))
      (pss_cons (ps_expr (pe_bm PySem.F.plainAttrs_list PySem.F.slot_list_append PySem.F.type_list_append mt_append (pv 6) (pa_cons pe_int pa_nil)))
      (pss_cons (ps_ret (pe_cc C_l_is_zone hr (pa_cons (pe_cc C_sight_zone hr (pa_cons (pe_ix (ix_l (K := K)) (pv 0) pe_int (fun _ _ => rfl)) (pa_cons (pv 2) pa_nil))) (pa_cons (pv 5) pa_nil)))) pss_nil))))), ?_⟩
    have c0 : Chg ([] : List Addr) H0 H0 := Chg.refl H0
    unfold Mi.m_l_sights_hold at hm
    refine q_asg ?_
    refine w_call ?_
    obtain ⟨x6, hx6, hm⟩ := Mi.bnd hm
    obtain ⟨u7, F8, r9, su10, ap11, kx12, ku13⟩ := itm_G r1 hx6
    refine w_args (va_cons (ku13 (val_var rfl) val_c) (va_cons (val_var rfl) (va_cons (val_var rfl) va_nil))) ?_
    obtain ⟨q14, hq14, hm⟩ := Mi.bnd hm
    refine ⟨u7, F8, x6, d3, d4, q14, rfl, r9, hq14, fun v17 H16 F19 c15 r18 fr20  => ?_⟩
    have d21 : Dj F0 F19 := Ty.fresh r0 fr20
    have d22 : Dj F1 F19 := Ty.fresh r1 fr20
    have n23 : ∀ a ∈ F19, H0 a = none := fun a h => c0.dom a (fr20 a h)
    have r0 := Ty.ex r0 c15
    have r1 := Ty.ex r1 c15
    have r2 := Ty.fz r2 c15
    have c0 := c0.trans c15.none
    refine g_name (σ' := [some v0, some v1, some v2, some (.int d3), some (.int d4), some v17, none]) rfl ?_
    refine q_asg ?_
    refine w_call ?_
    obtain ⟨x24, hx24, hm⟩ := Mi.bnd hm
    obtain ⟨u25, r26, ku27⟩ := itm_L r0 hx24
    refine w_args (va_cons (ku27 (val_var rfl) val_c) (va_cons (val_var rfl) va_nil)) ?_
    obtain ⟨q28, hq28, hm⟩ := Mi.bnd hm
    refine ⟨u25, x24, v2, d2, q28, rfl, r26, r2, hq28, fun v31 H30 F33 c29 r32 fr34  => ?_⟩
    have d35 : Dj F0 F33 := Ty.fresh r0 fr34
    have d36 : Dj F1 F33 := Ty.fresh r1 fr34
    have d37 : Dj F19 F33 := Ty.fresh r18 fr34
    have n38 : ∀ a ∈ F33, H0 a = none := fun a h => c0.dom a (fr34 a h)
    have r0 := Ty.ex r0 c29
    have r1 := Ty.ex r1 c29
    have r2 := Ty.fz r2 c29
    have r18 := Ty.ex r18 c29
    have c0 := c0.trans c29.none
    refine g_name (σ' := [some v0, some v1, some v2, some (.int d3), some (.int d4), some v17, some v31]) rfl ?_
    refine q_ifS ?_
    refine w_not ?_
    refine w_B ?_
    refine w_call ?_
    refine w_args (va_cons (val_var rfl) (va_cons (val_var rfl) va_nil)) ?_
    obtain ⟨q39, hq39, hm⟩ := Mi.bnd hm
    refine ⟨v31, F33, q28, v17, F19, q14, q39, rfl, r32, r18, hq39, fun H41 c40  => ?_⟩
    have r0 := Ty.ex r0 c40
    have r1 := Ty.ex r1 c40
    have r2 := Ty.fz r2 c40
    have r18 := Ty.ex r18 c40
    have r32 := Ty.ex r32 c40
    have c0 := c0.trans c40.none
    refine ⟨_, rfl, ?_⟩
    refine c_if (fun hb => ?_) (fun hb => ?_)
    ·
      replace hm := Mi.ifT hb hm
      refine q_ret ?_
      refine c_val val_c ?_
      obtain rfl := Option.some.inj hm
      exact hQ _ c0 
    replace hm := Mi.ifF hb hm
    refine w_fall ?_
    refine q_ifS ?_
    refine w_not ?_
    refine w_B ?_
    refine w_call ?_
    refine w_cons ?_
    refine w_call ?_
    obtain ⟨x42, hx42, hm⟩ := Mi.bnd hm
    obtain ⟨u43, r44, ku45⟩ := itm_L r0 hx42
    refine w_args (va_cons (ku45 (val_var rfl) val_c) (va_cons (val_var rfl) va_nil)) ?_
    obtain ⟨q46, hq46, hm⟩ := Mi.bnd hm
    refine ⟨u43, x42, v2, d2, q46, rfl, r44, r2, hq46, fun v49 H48 F51 c47 r50 fr52  => ?_⟩
    have d53 : Dj F0 F51 := Ty.fresh r0 fr52
    have d54 : Dj F1 F51 := Ty.fresh r1 fr52
    have d55 : Dj F19 F51 := Ty.fresh r18 fr52
    have d56 : Dj F33 F51 := Ty.fresh r32 fr52
    have n57 : ∀ a ∈ F51, H0 a = none := fun a h => c0.dom a (fr52 a h)
    have r0 := Ty.ex r0 c47
    have r1 := Ty.ex r1 c47
    have r2 := Ty.fz r2 c47
    have r18 := Ty.ex r18 c47
    have r32 := Ty.ex r32 c47
    have c0 := c0.trans c47.none
    refine w_cons ?_
    refine w_call ?_
    obtain ⟨x58, hx58, hm⟩ := Mi.bnd hm
    obtain ⟨u59, F60, r61, su62, ap63, kx64, ku65⟩ := itm_G r1 hx58
    have d66 : Dj F60 F19 := Dj.sub (d22) su62
    have d67 : Dj F60 F33 := Dj.sub (d36) su62
    have d68 : Dj F60 F51 := Dj.sub (d54) su62
    refine w_args (va_cons (ku65 (val_var rfl) val_c) (va_cons (val_var rfl) (va_cons (val_var rfl) va_nil))) ?_
    obtain ⟨q69, hq69, hm⟩ := Mi.bnd hm
    refine ⟨u59, F60, x58, d3, d4, q69, rfl, r61, hq69, fun v72 H71 F74 c70 r73 fr75  => ?_⟩
    have d76 : Dj F0 F74 := Ty.fresh r0 fr75
    have d77 : Dj F1 F74 := Ty.fresh r1 fr75
    have d78 : Dj F19 F74 := Ty.fresh r18 fr75
    have d79 : Dj F33 F74 := Ty.fresh r32 fr75
    have d80 : Dj F51 F74 := Ty.fresh r50 fr75
    have n81 : ∀ a ∈ F74, H0 a = none := fun a h => c0.dom a (fr75 a h)
    have r0 := Ty.ex r0 c70
    have r1 := Ty.ex r1 c70
    have r2 := Ty.fz r2 c70
    have r18 := Ty.ex r18 c70
    have r32 := Ty.ex r32 c70
    have r50 := Ty.ex r50 c70
    have c0 := c0.trans c70.none
    refine w_nil ?_
    obtain ⟨q82, hq82, hm⟩ := Mi.bnd hm
    refine ⟨v49, F51, q46, v72, F74, q69, q82, rfl, r50, r73, hq82, fun H84 c83  => ?_⟩
    have r0 := Ty.ex r0 c83
    have r1 := Ty.ex r1 c83
    have r2 := Ty.fz r2 c83
    have r18 := Ty.ex r18 c83
    have r32 := Ty.ex r32 c83
    have c0 := c0.trans c83.none
    refine ⟨_, rfl, ?_⟩
    refine c_if (fun hb => ?_) (fun hb => ?_)
    ·
      replace hm := Mi.ifT hb hm
      refine q_ret ?_
      refine c_val val_c ?_
      obtain rfl := Option.some.inj hm
      exact hQ _ c0 
    replace hm := Mi.ifF hb hm
    refine w_fall ?_
    refine q_drop (w_bm (c_val (val_var rfl) ⟨tyv_lst r32, ?_⟩))
    refine w_args (va_cons val_c va_nil) ?_
    obtain ⟨x85, hx85, hm⟩ := Mi.bnd hm
    refine m_app r32 yInt_i hx85 fun H87 c86 r32 => ?_
    have r0 := Ty.chg r0 c86 d35
    have r1 := Ty.chg r1 c86 d36
    have r2 := Ty.fz r2 c86
    have r18 := Ty.chg r18 c86 d37
    have c0 := c0.join c86 (fun a h => .inr (n38 a h))
    refine q_ret ?_
    refine w_call ?_
    refine w_cons ?_
    refine w_call ?_
    obtain ⟨x88, hx88, hm⟩ := Mi.bnd hm
    obtain ⟨u89, r90, ku91⟩ := itm_L r0 hx88
    refine w_args (va_cons (ku91 (val_var rfl) val_c) (va_cons (val_var rfl) va_nil)) ?_
    obtain ⟨q92, hq92, hm⟩ := Mi.bnd hm
    refine ⟨u89, x88, v2, d2, q92, rfl, r90, r2, hq92, fun v95 H94 F97 c93 r96 fr98  => ?_⟩
    have d99 : Dj F0 F97 := Ty.fresh r0 fr98
    have d100 : Dj F1 F97 := Ty.fresh r1 fr98
    have d101 : Dj F19 F97 := Ty.fresh r18 fr98
    have d102 : Dj F33 F97 := Ty.fresh r32 fr98
    have n103 : ∀ a ∈ F97, H0 a = none := fun a h => c0.dom a (fr98 a h)
    have r0 := Ty.ex r0 c93
    have r1 := Ty.ex r1 c93
    have r2 := Ty.fz r2 c93
    have r18 := Ty.ex r18 c93
    have r32 := Ty.ex r32 c93
    have c0 := c0.trans c93.none
    refine w_cons ?_
    refine c_val (val_var rfl) ?_
    refine w_nil ?_
    obtain ⟨q104, hq104, hm⟩ := Mi.bnd hm
    refine ⟨v95, F97, q92, v17, F19, q14, q104, rfl, r96, r18, hq104, fun H106 c105  => ?_⟩
    have r0 := Ty.ex r0 c105
    have r1 := Ty.ex r1 c105
    have r2 := Ty.fz r2 c105
    have r18 := Ty.ex r18 c105
    have r32 := Ty.ex r32 c105
    have c0 := c0.trans c105.none
    obtain rfl := Option.some.inj hm
    exact hQ _ c0 
abbrev s_law : Stmt := topS 44
abbrev N_law : List Str := ["_law_script", "_law_hand_here", "_law_sea_here", "_law_thin", "_law_charts", "_law_turn", "_law_place", "_law_pattern", "_law_far", "_law_light"]
theorem sc_law : FnScope ["_law_script", "_law_hand_here", "_law_sea_here", "_law_thin", "_law_charts", "_law_turn", "_law_place", "_law_pattern", "_law_far", "_law_light"] ["_law_script"] (defScope s_law) := ⟨rfl, rfl, rfl, by decide +kernel, rfl, by decide +kernel, by decide +kernel⟩
def sp_law (K : PySem.W.Frag) : Sp := fun vs H Q _ => ∃ (v0 : V) (d0 : (List Int)) (r : Bool), vs = [v0] ∧ yScr.rep K H [] v0 d0 ∧ Mi.m_law d0 = some r ∧ ∀ H', Chg ([]) H H' → Q (.bl r) H'
theorem ok_law (B : Bi mg) (CN : Cs K mg) (D : Dfn K mg "law" s_law) {C_Light : Addr} (T_Light : Tx K mg C_Light "Light" nm_Light) {C_Chart : Addr} (T_Chart : Tx K mg C_Chart "Chart" nm_Chart) (I_Light : CalI P w K mg C_Light "Light.__init__" s_Light_init (kw_Light K) ["self", "place", "pattern", "reach"] 2 (sp_Light_init K C_Light)) (C_l_hand : Cal P w K mg "_law_hand" ["_law_script", "_law_k"] 1 (sp_l_hand K)) (C_l_pick : Cal P w K mg "_law_pick" ["_law_hand_here", "_law_size"] 1 (sp_l_pick K)) (C_l_sea : Cal P w K mg "_law_sea" ["_law_hand_here", "_law_most"] 3 (sp_l_sea K)) (C_l_chart : Cal P w K mg "_law_chart" ["_law_sea_here"] 5 (sp_l_chart K C_Chart)) (C_l_thinned : Cal P w K mg "_law_thinned" ["_law_hand_here", "_law_joins"] 2 (sp_l_thinned K)) (C_l_sights_hold : Cal P w K mg "_law_sights_hold" ["_law_charts", "_law_seas", "_law_light", "_law_place", "_law_far"] 7 (sp_l_sights_hold K C_Light C_Chart)) : Cal P w K mg "law" ["_law_script"] 8 (sp_law K) := by
  obtain ⟨f, fd, F, g⟩ := D.ex
  refine ⟨f, fd, g, F.kp, bindsF F (fun _ _ _ _ _ _ us hl => match us, hl with | [_], _ => rfl), fun base => F.ok sc_law (fun vs H Q E h => ?_) (fun cdv A outer s H0 vs Q E hr h => ?_)⟩
  · obtain ⟨v0, d0, r, rfl, r0, hm, hQ⟩ := h; rfl
  ·
    obtain ⟨v0, d0, r, rfl, r0, hm, hQ⟩ := h
    obtain ⟨fI_Light, fdI_Light, MI_Light, FI_Light, OI_Light⟩ := I_Light.ex
    obtain ⟨mv_kb_Light_2_reach, kb_Light_2_reach⟩ := FunD.kbinds0 (ps := ["self", "place", "pattern", "reach"]) FI_Light 3 ["reach"] [] (fun us mv ws => permG [0, 1, 2, 3] us mv ws) (by intro z; cases z) (fun q hq => nomatch hq) (fun r1 r2 r3 => permG_rel _ r1 r2 r3) (fun _ _ _ _ _ _ us mv ws h1 h2 h3 => match us, mv, ws, h1, h2, h3 with | [_, _, _], [], [_], _, _, _ => rfl)
    refine ⟨_, pss_cons (ps_set (i := 1) sc_law.nd rfl (.inl rfl) (pe_cc C_l_hand hr (pa_cons (pv 0) (pa_cons pe_int pa_nil))))
      (pss_cons (ps_set (i := 2) sc_law.nd rfl (.inl rfl) (pe_cc C_l_sea hr (pa_cons (pv 1) (pa_cons (pe_ix (ix_l (K := K)) (pe_lst (pa_cons pe_int (pa_cons pe_int (pa_cons pe_int (pa_cons pe_int (pa_cons pe_int (pa_cons pe_int (pa_cons pe_int (pa_cons pe_int pa_nil))))))))) (pe_cc C_l_pick hr (pa_cons (pv 1) (pa_cons pe_int pa_nil))) (fun _ _ => rfl)) pa_nil))))
      (pss_cons (ps_set (i := 3) sc_law.nd rfl (.inl rfl) (pe_tup (pa_cons (pe_ix (ix_t (K := K)) (pv 2) pe_int (fun _ _ => rfl)) (pa_cons (pe_cc C_l_thinned hr (pa_cons (pe_cc C_l_hand hr (pa_cons (pv 0) (pa_cons pe_int pa_nil))) (pa_cons (pe_ix (ix_t (K := K)) (pv 2) pe_int (fun _ _ => rfl)) pa_nil))) (pa_cons (pe_ix (ix_t (K := K)) (pv 2) pe_int (fun _ _ => rfl)) (pa_cons (pe_ix (ix_t (K := K)) (pv 2) pe_int (fun _ _ => rfl)) pa_nil))))))
      (pss_cons (ps_set (i := 4) sc_law.nd rfl (.inl rfl) (pe_lst (pa_cons (pe_cc C_l_chart hr (pa_cons (pv 2) pa_nil)) (pa_cons (pe_cc C_l_chart hr (pa_cons (pv 3) pa_nil)) pa_nil))))
      (pss_cons (ps_set (i := 1) sc_law.nd rfl (.inl rfl) (pe_cc C_l_hand hr (pa_cons (pv 0) (pa_cons pe_int pa_nil))))
      (pss_cons (ps_for PassesOwn.never rfl (pi_range1 (by rfl) B.range (pa_cons pe_int pa_nil)) (pg_name (i := 5) sc_law.nd rfl (.inl rfl)) (pss_cons (ps_set (i := 6) sc_law.nd rfl (.inl rfl) (pe_cc C_l_pick hr (pa_cons (pv 1) (pa_cons (pe_callB (cl_len (K := K)) (by rfl) B.len PySem.boot_len (pa_cons (pe_ix (ix_t (K := K)) (pv 2) pe_int (fun _ _ => rfl)) pa_nil)) pa_nil))))
      (pss_cons (ps_set (i := 7) sc_law.nd rfl (.inl rfl) (pe_ix (ix_l (K := K)) (pe_lst (pa_cons pe_str (pa_cons pe_str (pa_cons pe_str (pa_cons pe_str pa_nil))))) (pe_cc C_l_pick hr (pa_cons (pv 1) (pa_cons pe_int pa_nil))) (fun _ _ => rfl)))
      (pss_cons (ps_for PassesOwn.never rfl (pi_list (pe_lst (pa_cons pe_int (pa_cons pe_int (pa_cons pe_int (pa_cons pe_int pa_nil)))))) (pg_name (i := 8) sc_law.nd rfl (.inl rfl)) (pss_cons (ps_set (i := 9) sc_law.nd rfl (.inl rfl) (pe_makeK MI_Light (OI_Light base) (hr.mono (by decide)) (by rfl) T_Light.mgC kb_Light_2_reach pass0 (pa_cons (pv 6) (pa_cons (pv 7) pa_nil)) (pk_cons (pv 8) pk_nil)))
      (pss_cons (ps_if (pt_not (pt_val (pe_cc C_l_sights_hold hr (pa_cons (pv 4) (pa_cons (pe_lst (pa_cons (pv 2) (pa_cons (pv 3) pa_nil))) (pa_cons (pv 9) (pa_cons (pv 6) (pa_cons (pv 8) pa_nil)))))))) (pss_cons (ps_ret pe_bl) pss_nil) (pss_nil))
      (pss_cons (ps_if (PW.pt (pw_or (pt_cmpR op_ne (pe_fldk (K := K) (pv 9) (by rfl)) (pv 6) (nomark _)) (pw_or (pt_cmpR op_ne (pe_fldk (K := K) (pv 9) (by rfl)) (pv 7) (nomark _)) (pw_or1 (pt_cmpR op_ne (pe_fldk (K := K) (pv 9) (by rfl)) (pv 8) (nomark _)))))) (pss_cons (ps_ret pe_bl) pss_nil) (pss_nil))
      (pss_nil)))))
      (pss_nil)))))
      (pss_cons (ps_ret pe_bl) pss_nil)))))), ?_⟩
    have c0 : Chg ([] : List Addr) H0 H0 := Chg.refl H0
    unfold Mi.m_law at hm
    refine q_asg ?_
    refine w_call ?_
    refine w_args (va_cons (val_var rfl) (va_cons val_c va_nil)) ?_
    obtain ⟨q2, hq2, hm⟩ := Mi.bnd hm
    refine ⟨v0, d0, (0 : Int), q2, rfl, r0, hq2, fun v5 H4 F7 c3 r6 fr8  => ?_⟩
    have n9 : ∀ a ∈ F7, H0 a = none := fun a h => c0.dom a (fr8 a h)
    have r0 := Ty.fz r0 c3
    have c0 := c0.trans c3.none
    refine g_name (σ' := [some v0, some v5, none, none, none, none, none, none, none, none]) rfl ?_
    refine q_asg ?_
    refine w_call ?_
    refine w_cons ?_
    refine c_val (val_var rfl) ?_
    refine w_cons ?_
    refine w_op ?_
    refine w_lst ?_
    refine w_args (va_cons val_c (va_cons val_c (va_cons val_c (va_cons val_c (va_cons val_c (va_cons val_c (va_cons val_c (va_cons val_c va_nil)))))))) ?_
    refine e_lst (K := K) (τ := yInt) (by exact Nat.le_of_ble_eq_true rfl) (.cons yInt_i (.cons yInt_i (.cons yInt_i (.cons yInt_i (.cons yInt_i (.cons yInt_i (.cons yInt_i (.cons yInt_i .nil)))))))) fun p10 H14 np13 c11 r12 => ?_
    have d15 : Dj F7 [p10] := Ty.nin r6 np13
    have n16 : ∀ a ∈ [p10], H0 a = none := one_fresh (c0.dom p10 np13)
    have r0 := Ty.fz r0 c11
    have r6 := Ty.ex r6 c11
    have c0 := c0.trans c11.none
    refine w_call ?_
    refine w_args (va_cons (val_var rfl) (va_cons val_c va_nil)) ?_
    obtain ⟨q17, hq17, hm⟩ := Mi.bnd hm
    refine ⟨v5, F7, q2, (8 : Int), q17, rfl, r6, hq17, fun H19 c18 r6 => ?_⟩
    have r0 := Ty.fz r0 c18
    have r12 := Ty.chg r12 c18 d15.symm
    have c0 := c0.join c18 (fun a h => .inr (n9 a h))
    obtain ⟨x20, hx20, hm⟩ := Mi.bnd hm
    refine w_ixL r12 hx20 fun u21 r22 => ?_
    obtain ⟨_, rfl⟩ := r22
    refine w_nil ?_
    obtain ⟨q23, hq23, hm⟩ := Mi.bnd hm
    have r6_old := r6
    refine ⟨v5, F7, q17.2, x20, q23, rfl, r6, hq23, fun v26 H25 F28 c24 r27 fr29 r6 => ?_⟩
    have d30 : Dj F7 F28 := Ty.fresh r6_old fr29
    have n31 : ∀ a ∈ F28, H0 a = none := fun a h => c0.dom a (fr29 a h)
    have r0 := Ty.fz r0 c24
    have c0 := c0.join c24 (fun a h => .inr (n9 a h))
    refine g_name (σ' := [some v0, some v5, some v26, none, none, none, none, none, none, none]) rfl ?_
    refine q_asg ?_
    refine w_tup ?_
    refine w_cons ?_
    obtain ⟨u32, F33, r34, su35, kx36, ku37⟩ := itm_tup (n := 0) at0 r27
    have d38 : Dj F33 F7 := Dj.sub (d30.symm) su35
    have n39 : ∀ a ∈ F33, H0 a = none := fun a h => n31 a (su35 a h)
    refine c_val (ku37 (val_var rfl) val_c) ?_
    refine w_cons ?_
    refine w_call ?_
    refine w_cons ?_
    refine w_call ?_
    refine w_args (va_cons (val_var rfl) (va_cons val_c va_nil)) ?_
    obtain ⟨q40, hq40, hm⟩ := Mi.bnd hm
    refine ⟨v0, d0, (1 : Int), q40, rfl, r0, hq40, fun v43 H42 F45 c41 r44 fr46  => ?_⟩
    have d47 : Dj F7 F45 := Ty.fresh r6 fr46
    have d48 : Dj F28 F45 := Ty.fresh r27 fr46
    have d49 : Dj F33 F45 := Ty.fresh r34 fr46
    have n50 : ∀ a ∈ F45, H0 a = none := fun a h => c0.dom a (fr46 a h)
    have r0 := Ty.fz r0 c41
    have r6 := Ty.ex r6 c41
    have r27 := Ty.ex r27 c41
    have r34 := Ty.ex r34 c41
    have c0 := c0.trans c41.none
    refine w_cons ?_
    obtain ⟨u51, F52, r53, su54, kx55, ku56⟩ := itm_tup (n := 1) (atS at0) r27
    have d57 : Dj F52 F7 := Dj.sub (d30.symm) su54
    have d58 : Dj F52 F45 := Dj.sub (d48) su54
    have n59 : ∀ a ∈ F52, H0 a = none := fun a h => n31 a (su54 a h)
    refine c_val (ku56 (val_var rfl) val_c) ?_
    refine w_nil ?_
    obtain ⟨q60, hq60, hm⟩ := Mi.bnd hm
    have r44_old := r44
    refine ⟨v43, F45, q40, u51, F52, q23.1.2.1, q60, rfl, r44, r53, d58.symm, hq60, fun v63 H62 F65 c61 r64 fr66 r44 => ?_⟩
    have d67 : Dj F7 F65 := Ty.fresh r6 fr66
    have d68 : Dj F28 F65 := Ty.fresh r27 fr66
    have d69 : Dj F33 F65 := Ty.fresh r34 fr66
    have n70 : ∀ a ∈ F65, H0 a = none := fun a h => c0.dom a (fr66 a h)
    have r0 := Ty.fz r0 c61
    have r6 := Ty.chg r6 c61 d47
    have r27 := Ty.chg r27 c61 d48
    have r34 := Ty.chg r34 c61 d49
    have c0 := c0.join c61 (fun a h => .inr (n50 a h))
    refine w_cons ?_
    obtain ⟨u71, F72, r73, su74, kx75, ku76⟩ := itm_tup (n := 2) (atS (atS at0)) r27
    have d77 : Dj F72 F7 := Dj.sub (d30.symm) su74
    have d78 : Dj F72 F65 := Dj.sub (d68) su74
    have n79 : ∀ a ∈ F72, H0 a = none := fun a h => n31 a (su74 a h)
    refine c_val (ku76 (val_var rfl) val_c) ?_
    refine w_cons ?_
    obtain ⟨u80, F81, r82, su83, kx84, ku85⟩ := itm_tup (n := 3) (atS (atS (atS at1))) r27
    have d86 : Dj F81 F7 := Dj.sub (d30.symm) su83
    have d87 : Dj F81 F65 := Dj.sub (d68) su83
    have n88 : ∀ a ∈ F81, H0 a = none := fun a h => n31 a (su83 a h)
    refine c_val (ku85 (val_var rfl) val_c) ?_
    refine w_nil ?_
    refine e_tup (K := K) (ty := (sCons (yLst yInt) (sCons (yLst (yTup (sCons yInt (sOne yInt)))) (sCons (yLst yInt) (sOne (yLst yInt)))))) (F := (F33 ++ (F65 ++ (F72 ++ F81)))) (d := (q23.1.1, q60.1, q23.1.2.2.1, q23.1.2.2.2)) (by exact Nat.le_of_ble_eq_true rfl) ⟨_, _, _, _, rfl, rfl, r34, ⟨_, _, _, _, rfl, rfl, r64, ⟨_, _, _, _, rfl, rfl, r73, ⟨_, rfl, r82⟩⟩⟩⟩ fun p89 H93 np92 c90 r91 => ?_
    have r0 := Ty.fz r0 c90
    have r6 := Ty.ex r6 c90
    have r27 := Ty.ex r27 c90
    have r34 := Ty.ex r34 c90
    have r64 := Ty.ex r64 c90
    have r73 := Ty.ex r73 c90
    have r82 := Ty.ex r82 c90
    have c0 := c0.trans c90.none
    have d94 : Dj (F33 ++ (F65 ++ (F72 ++ F81))) F7 := (Dj.app (d38) ((Dj.app (d67.symm) ((Dj.app (d77) (d86))))))
    refine g_name (σ' := [some v0, some v5, some v26, some (.ref p89), none, none, none, none, none, none]) rfl ?_
    refine q_asg ?_
    refine w_lst ?_
    refine w_cons ?_
    refine w_call ?_
    refine w_args (va_cons (val_var rfl) va_nil) ?_
    obtain ⟨q95, hq95, hm⟩ := Mi.bnd hm
    refine ⟨v26, F28, q23.1, q95, rfl, r27, hq95, fun v98 H97 c96 r99  => ?_⟩
    have r0 := Ty.fz r0 c96
    have r6 := Ty.ex r6 c96
    have r27 := Ty.ex r27 c96
    have r91 := Ty.ex r91 c96
    have c0 := c0.trans c96.none
    refine w_cons ?_
    refine w_call ?_
    refine w_args (va_cons (val_var rfl) va_nil) ?_
    obtain ⟨q100, hq100, hm⟩ := Mi.bnd hm
    refine ⟨(.ref p89), (F33 ++ (F65 ++ (F72 ++ F81))), (q23.1.1, q60.1, q23.1.2.2.1, q23.1.2.2.2), q100, rfl, r91, hq100, fun v103 H102 c101 r104  => ?_⟩
    have r0 := Ty.fz r0 c101
    have r6 := Ty.ex r6 c101
    have r27 := Ty.ex r27 c101
    have r91 := Ty.ex r91 c101
    have r99 := Ty.fz r99 c101
    have c0 := c0.trans c101.none
    refine w_nil ?_
    refine e_lst (K := K) (τ := (yObj C_Chart nm_Chart ty_Chart)) (by exact Nat.le_of_ble_eq_true rfl) (.cons r99 (.cons r104 .nil)) fun p105 H109 np108 c106 r107 => ?_
    have d110 : Dj F7 [p105] := Ty.nin r6 np108
    have d111 : Dj F28 [p105] := Ty.nin r27 np108
    have d112 : Dj (F33 ++ (F65 ++ (F72 ++ F81))) [p105] := Ty.nin r91 np108
    have n113 : ∀ a ∈ [p105], H0 a = none := one_fresh (c0.dom p105 np108)
    have r0 := Ty.fz r0 c106
    have r6 := Ty.ex r6 c106
    have r27 := Ty.ex r27 c106
    have r91 := Ty.ex r91 c106
    have r99 := Ty.fz r99 c106
    have r104 := Ty.fz r104 c106
    have c0 := c0.trans c106.none
    refine g_name (σ' := [some v0, some v5, some v26, some (.ref p89), some (.ref p105), none, none, none, none, none]) rfl ?_
    refine q_asg ?_
    refine w_call ?_
    refine w_args (va_cons (val_var rfl) (va_cons val_c va_nil)) ?_
    obtain ⟨q114, hq114, hm⟩ := Mi.bnd hm
    refine ⟨v0, d0, (2 : Int), q114, rfl, r0, hq114, fun v117 H116 F119 c115 r118 fr120  => ?_⟩
    have d121 : Dj F7 F119 := Ty.fresh r6 fr120
    have d122 : Dj F28 F119 := Ty.fresh r27 fr120
    have d123 : Dj (F33 ++ (F65 ++ (F72 ++ F81))) F119 := Ty.fresh r91 fr120
    have d124 : Dj [p105] F119 := Ty.fresh r107 fr120
    have n125 : ∀ a ∈ F119, H0 a = none := fun a h => c0.dom a (fr120 a h)
    have r0 := Ty.fz r0 c115
    have r6 := Ty.ex r6 c115
    have r27 := Ty.ex r27 c115
    have r91 := Ty.ex r91 c115
    have r107 := Ty.ex r107 c115
    have c0 := c0.trans c115.none
    refine g_name (σ' := [some v0, some v117, some v26, some (.ref p89), some (.ref p105), none, none, none, none, none]) rfl ?_
    refine q_for ?_
    refine w_iRng1 ?_
    refine w_args (va_cons val_c va_nil) ?_
    obtain ⟨g126, hg126, hm⟩ := Mi.bnd hm
    obtain ⟨e127, he127, hm⟩ := Mi.bnd hm
    refine l_rng1 hg126 (fun i σ' H' => ∃ (s128 : (List Int)) (y129 : Option V) (y130 : Option V) (y131 : Option V) (y132 : Option V) (y133 : Option V), σ' = [some v0, some v117, some v26, some (.ref p89), some (.ref p105), y129, y130, y131, y132, y133] ∧ Chg ([] : List Addr) H0 H' ∧ yScr.rep K H' [] v0 d0 ∧ (yLst yInt).rep K H' F119 v117 s128 ∧ (yTup (sCons (yLst yInt) (sCons (yLst (yTup (sCons yInt (sOne yInt)))) (sCons (yLst yInt) (sOne (yLst yInt)))))).rep K H' F28 v26 q23.1 ∧ (yTup (sCons (yLst yInt) (sCons (yLst (yTup (sCons yInt (sOne yInt)))) (sCons (yLst yInt) (sOne (yLst yInt)))))).rep K H' (F33 ++ (F65 ++ (F72 ++ F81))) (.ref p89) (q23.1.1, q60.1, q23.1.2.2.1, q23.1.2.2.2) ∧ (yLst (yObj C_Chart nm_Chart ty_Chart)).rep K H' [p105] (.ref p105) [q95, q100] ∧ Mi.forR (Mi.m_law_b1 q23 q60 q95 q100) s128 (List.drop i g126) = some e127) ⟨q114, none, none, none, none, none, rfl, c0, r0, r118, r27, r91, r107, he127⟩ (fun i136 x135 σ' H' hx134 hp => ?_) (fun σ' H' hp => ?_)
    ·
      obtain ⟨s128, y129, y130, y131, y132, y133, rfl, c0, r0, r118, r27, r91, r107, hle127⟩ := hp
      obtain ⟨o137, hbe127, hore127⟩ := Mi.forR_go hle127 hx134
      unfold Mi.m_law_b1 at hbe127
      refine g_name (σ' := [some v0, some v117, some v26, some (.ref p89), some (.ref p105), some (.int x135), y130, y131, y132, y133]) rfl ?_
      refine q_asg ?_
      refine w_call ?_
      obtain ⟨u138, F139, r140, su141, kx142, ku143⟩ := itm_tup (n := 0) at0 r27
      have d144 : Dj F139 F119 := Dj.sub (d122) su141
      have d145 : Dj F139 [p105] := Dj.sub (d111) su141
      have n146 : ∀ a ∈ F139, H0 a = none := fun a h => n31 a (su141 a h)
      refine w_args (va_cons (val_var rfl) (va_cons (val_lenL r140 (ku143 (val_var rfl) val_c)) va_nil)) ?_
      obtain ⟨q147, hq147, hbe127⟩ := Mi.bnd hbe127
      refine ⟨v117, F119, s128, (q23.1.1.length : Int), q147, rfl, r118, hq147, fun H149 c148 r118 => ?_⟩
      have r0 := Ty.fz r0 c148
      have r27 := Ty.chg r27 c148 d122
      have r91 := Ty.chg r91 c148 d123
      have r107 := Ty.chg r107 c148 d124
      have c0 := c0.join c148 (fun a h => .inr (n125 a h))
      refine g_name (σ' := [some v0, some v117, some v26, some (.ref p89), some (.ref p105), some (.int x135), some (.int q147.1), y131, y132, y133]) rfl ?_
      refine q_asg ?_
      refine w_op ?_
      refine w_lst ?_
      refine w_args (va_cons (val_cS (a := ([42] : List Nat)) (by decide +kernel)) (va_cons (val_cS (a := ([46] : List Nat)) (by decide +kernel)) (va_cons (val_cS (a := ([42, 42, 46] : List Nat)) (by decide +kernel)) (va_cons (val_cS (a := ([46, 46, 46, 46] : List Nat)) (by decide +kernel)) va_nil)))) ?_
      refine e_lst (K := K) (τ := yStr) (by exact Nat.le_of_ble_eq_true rfl) (.cons yStr_i (.cons yStr_i (.cons yStr_i (.cons yStr_i .nil)))) fun p150 H154 np153 c151 r152 => ?_
      have d155 : Dj F119 [p150] := Ty.nin r118 np153
      have d156 : Dj F28 [p150] := Ty.nin r27 np153
      have d157 : Dj (F33 ++ (F65 ++ (F72 ++ F81))) [p150] := Ty.nin r91 np153
      have d158 : Dj [p105] [p150] := Ty.nin r107 np153
      have n159 : ∀ a ∈ [p150], H0 a = none := one_fresh (c0.dom p150 np153)
      have r0 := Ty.fz r0 c151
      have r118 := Ty.ex r118 c151
      have r27 := Ty.ex r27 c151
      have r91 := Ty.ex r91 c151
      have r107 := Ty.ex r107 c151
      have c0 := c0.trans c151.none
      refine w_call ?_
      refine w_args (va_cons (val_var rfl) (va_cons val_c va_nil)) ?_
      obtain ⟨q160, hq160, hbe127⟩ := Mi.bnd hbe127
      refine ⟨v117, F119, q147.2, (4 : Int), q160, rfl, r118, hq160, fun H162 c161 r118 => ?_⟩
      have r0 := Ty.fz r0 c161
      have r27 := Ty.chg r27 c161 d122
      have r91 := Ty.chg r91 c161 d123
      have r107 := Ty.chg r107 c161 d124
      have r152 := Ty.chg r152 c161 d155.symm
      have c0 := c0.join c161 (fun a h => .inr (n125 a h))
      obtain ⟨x163, hx163, hbe127⟩ := Mi.bnd hbe127
      refine w_ixL r152 hx163 fun u164 r165 => ?_
      obtain ⟨_, rfl⟩ := r165
      refine g_name (σ' := [some v0, some v117, some v26, some (.ref p89), some (.ref p105), some (.int x135), some (.int q147.1), some (.str (toS x163)), y132, y133]) rfl ?_
      refine q_for ?_
      refine w_iList ?_
      refine w_lst ?_
      refine w_args (va_cons val_c (va_cons val_c (va_cons val_c (va_cons val_c va_nil)))) ?_
      refine e_lst (K := K) (τ := yInt) (by exact Nat.le_of_ble_eq_true rfl) (.cons yInt_i (.cons yInt_i (.cons yInt_i (.cons yInt_i .nil)))) fun p166 H170 np169 c167 r168 => ?_
      have d171 : Dj F119 [p166] := Ty.nin r118 np169
      have d172 : Dj F28 [p166] := Ty.nin r27 np169
      have d173 : Dj (F33 ++ (F65 ++ (F72 ++ F81))) [p166] := Ty.nin r91 np169
      have d174 : Dj [p105] [p166] := Ty.nin r107 np169
      have n175 : ∀ a ∈ [p166], H0 a = none := one_fresh (c0.dom p166 np169)
      have r0 := Ty.fz r0 c167
      have r118 := Ty.ex r118 c167
      have r27 := Ty.ex r27 c167
      have r91 := Ty.ex r91 c167
      have r107 := Ty.ex r107 c167
      have c0 := c0.trans c167.none
      obtain ⟨e176, he176, hbe127⟩ := Mi.bnd hbe127
      refine l_lst r168 (fun i σ' H' => ∃ (s177 : Unit) (y178 : Option V) (y179 : Option V), σ' = [some v0, some v117, some v26, some (.ref p89), some (.ref p105), some (.int x135), some (.int q147.1), some (.str (toS x163)), y178, y179] ∧ Chg ([] : List Addr) H0 H' ∧ yScr.rep K H' [] v0 d0 ∧ (yLst yInt).rep K H' F119 v117 q160.2 ∧ (yTup (sCons (yLst yInt) (sCons (yLst (yTup (sCons yInt (sOne yInt)))) (sCons (yLst yInt) (sOne (yLst yInt)))))).rep K H' F28 v26 q23.1 ∧ (yTup (sCons (yLst yInt) (sCons (yLst (yTup (sCons yInt (sOne yInt)))) (sCons (yLst yInt) (sOne (yLst yInt)))))).rep K H' (F33 ++ (F65 ++ (F72 ++ F81))) (.ref p89) (q23.1.1, q60.1, q23.1.2.2.1, q23.1.2.2.2) ∧ (yLst (yObj C_Chart nm_Chart ty_Chart)).rep K H' [p105] (.ref p105) [q95, q100] ∧ (yLst yInt).rep K H' [p166] (.ref p166) [(2 : Int), (0 : Int), (3 : Int), (1 : Int)] ∧ Mi.forR (Mi.m_law_b2 q23 q60 q95 q100 q147 x163) s177 (List.drop i [(2 : Int), (0 : Int), (3 : Int), (1 : Int)]) = some e176) ⟨(), y132, y133, rfl, c0, r0, r118, r27, r91, r107, r168, he176⟩ (fun i σ' H' hp => by obtain ⟨s177, y178, y179, rfl, c0, r0, r118, r27, r91, r107, r168, _⟩ := hp; exact r168) (fun i182 x181 u183 σ' H' hx180 r184 hp => ?_) (fun σ' H' hp => ?_)
      ·
        obtain ⟨s177, y178, y179, rfl, c0, r0, r118, r27, r91, r107, r168, hle176⟩ := hp
        obtain ⟨o185, hbe176, hore176⟩ := Mi.forR_go hle176 hx180
        unfold Mi.m_law_b2 at hbe176
        obtain ⟨_, rfl⟩ := r184
        refine g_name (σ' := [some v0, some v117, some v26, some (.ref p89), some (.ref p105), some (.int x135), some (.int q147.1), some (.str (toS x163)), some (.int x181), y179]) rfl ?_
        refine q_asg ?_
        refine w_makeK ?_
        refine w_args (va_cons (val_var rfl) (va_cons (val_var rfl) va_nil)) ?_
        refine w_args (va_cons (val_var rfl) va_nil) ?_
        refine ⟨rfl, rfl, ?_⟩
        intro p186 dx187 nx188 ndx189 nex190
        have d191 : Dj F119 [p186] := Ty.nin r118 nx188
        have d192 : Dj F28 [p186] := Ty.nin r27 nx188
        have d193 : Dj (F33 ++ (F65 ++ (F72 ++ F81))) [p186] := Ty.nin r91 nx188
        have d194 : Dj [p105] [p186] := Ty.nin r107 nx188
        have d195 : Dj [p166] [p186] := Ty.nin r168 nx188
        have n196 : ∀ a ∈ [p186], H0 a = none := one_fresh (c0.dom p186 nx188)
        obtain ⟨c197, r198⟩ := make_new (K := K) (C := C_Light) nx188 ndx189 nex190
        have r0 := Ty.fz r0 c197
        have r118 := Ty.ex r118 c197
        have r27 := Ty.ex r27 c197
        have r91 := Ty.ex r91 c197
        have r107 := Ty.ex r107 c197
        have r168 := Ty.ex r168 c197
        have c0 := c0.trans c197.none
        obtain ⟨q199, hq199, hbe176⟩ := Mi.bnd hbe176
        refine ⟨p186, dx187, q147.1, x163, x181, q199, rfl, r198, hq199, fun H201 c200 r202 => ⟨rfl, ?_⟩⟩
        have r0 := Ty.fz r0 c200
        have r118 := Ty.chg r118 c200 d191
        have r27 := Ty.chg r27 c200 d192
        have r91 := Ty.chg r91 c200 d193
        have r107 := Ty.chg r107 c200 d194
        have r168 := Ty.chg r168 c200 d195
        have c0 := c0.join c200 (fun a h => .inr (n196 a h))
        refine g_name (σ' := [some v0, some v117, some v26, some (.ref p89), some (.ref p105), some (.int x135), some (.int q147.1), some (.str (toS x163)), some (.int x181), some (.ref p186)]) rfl ?_
        refine q_ifS ?_
        refine w_not ?_
        refine w_B ?_
        refine w_call ?_
        refine w_cons ?_
        refine c_val (val_var rfl) ?_
        refine w_cons ?_
        refine w_lst ?_
        refine w_args (va_cons (val_var rfl) (va_cons (val_var rfl) va_nil)) ?_
        refine e_lsg (K := K) (τ := (yTup (sCons (yLst yInt) (sCons (yLst (yTup (sCons yInt (sOne yInt)))) (sCons (yLst yInt) (sOne (yLst yInt))))))) (G := (F28 ++ (F33 ++ (F65 ++ (F72 ++ F81))))) (by exact Nat.le_of_ble_eq_true rfl) (dm_app (Ty.dm r27) (Ty.dm r91)) (.cons ⟨F28, r27, (fun b h => List.mem_append_left _ h)⟩ (.cons ⟨(F33 ++ (F65 ++ (F72 ++ F81))), r91, (fun b h => List.mem_append_right _ (h))⟩ .nil)) fun p203 H207 np206 c204 r205 => ?_
        have d208 : Dj F119 (p203 :: (F28 ++ (F33 ++ (F65 ++ (F72 ++ F81))))) := Dj.consR (Ty.nin r118 np206) (Dj.symm (Dj.app (Dj.symm (d122.symm)) (Dj.symm (d123.symm))))
        have d209 : Dj [p105] (p203 :: (F28 ++ (F33 ++ (F65 ++ (F72 ++ F81))))) := Dj.consR (Ty.nin r107 np206) (Dj.symm (Dj.app (Dj.symm (d111.symm)) (Dj.symm (d112.symm))))
        have d210 : Dj [p166] (p203 :: (F28 ++ (F33 ++ (F65 ++ (F72 ++ F81))))) := Dj.consR (Ty.nin r168 np206) (Dj.symm (Dj.app (Dj.symm (d172.symm)) (Dj.symm (d173.symm))))
        have n211 : ∀ a ∈ (p203 :: (F28 ++ (F33 ++ (F65 ++ (F72 ++ F81))))), H0 a = none := fresh_cons (c0.dom p203 np206) (app_fresh n31 (app_fresh n39 (app_fresh n70 (app_fresh n79 n88))))
        have r0 := Ty.fz r0 c204
        have r118 := Ty.ex r118 c204
        have r27 := Ty.ex r27 c204
        have r91 := Ty.ex r91 c204
        have r107 := Ty.ex r107 c204
        have r202 := Ty.fz r202 c204
        have r168 := Ty.ex r168 c204
        have c0 := c0.trans c204.none
        refine w_cons ?_
        refine c_val (val_var rfl) ?_
        refine w_cons ?_
        refine c_val (val_var rfl) ?_
        refine w_cons ?_
        refine c_val (val_var rfl) ?_
        refine w_nil ?_
        obtain ⟨q212, hq212, hbe176⟩ := Mi.bnd hbe176
        refine ⟨(.ref p105), [p105], [q95, q100], (.ref p203), (p203 :: (F28 ++ (F33 ++ (F65 ++ (F72 ++ F81))))), [q23.1, (q23.1.1, q60.1, q23.1.2.2.1, q23.1.2.2.2)], (.ref p186), q199, q147.1, x181, q212, rfl, r107, r205, r202, hq212, fun H214 c213  => ?_⟩
        have r0 := Ty.fz r0 c213
        have r118 := Ty.ex r118 c213
        have r27 := Ty.ex r27 c213
        have r91 := Ty.ex r91 c213
        have r107 := Ty.ex r107 c213
        have r202 := Ty.fz r202 c213
        have r168 := Ty.ex r168 c213
        have c0 := c0.trans c213.none
        refine ⟨_, rfl, ?_⟩
        refine c_if (fun hb => ?_) (fun hb => ?_)
        ·
          replace hbe176 := Mi.ifT hb hbe176
          refine q_ret ?_
          refine c_val val_c ?_
          obtain rfl := Option.some.inj hbe176
          obtain rfl := Mi.or_inl hore176
          obtain rfl := Option.some.inj (Mi.orL_inl hbe127)
          obtain rfl := Mi.or_inl hore127
          obtain rfl := Option.some.inj (Mi.orR_inl hm)
          exact hQ _ c0 
        replace hbe176 := Mi.ifF hb hbe176
        refine w_fall ?_
        obtain ⟨u215, r216, kx217, ku218⟩ := fld_obj (n := 0) (f := "place") at0 (by decide +kernel) rfl T_Light.cls (T_Light.na "place" (by decide +kernel)) r202
        obtain ⟨_, rfl⟩ := r216
        obtain ⟨u220, r221, kx222, ku223⟩ := fld_obj (n := 1) (f := "pattern") (atS at0) (by decide +kernel) rfl T_Light.cls (T_Light.na "pattern" (by decide +kernel)) r202
        obtain ⟨_, rfl⟩ := r221
        obtain ⟨u225, r226, kx227, ku228⟩ := fld_obj (n := 2) (f := "reach") (atS (atS at1)) (by decide +kernel) rfl T_Light.cls (T_Light.na "reach" (by decide +kernel)) r202
        obtain ⟨_, rfl⟩ := r226
        refine q_if (ans_orB (ans_t (val_neI (ku218 (val_var rfl)) (val_var rfl))) (fun _ => (ans_orB (ans_t (val_neS (ku223 (val_var rfl)) (val_var rfl))) (fun _ => (ans_t (val_neI (ku228 (val_var rfl)) (val_var rfl))))))) (fun hb => ?_) (fun hb => ?_)
        ·
          replace hbe176 := Mi.ifT hb hbe176
          refine q_ret ?_
          refine c_val val_c ?_
          obtain rfl := Option.some.inj hbe176
          obtain rfl := Mi.or_inl hore176
          obtain rfl := Option.some.inj (Mi.orL_inl hbe127)
          obtain rfl := Mi.or_inl hore127
          obtain rfl := Option.some.inj (Mi.orR_inl hm)
          exact hQ _ c0 
        replace hbe176 := Mi.ifF hb hbe176
        refine w_fall ?_
        refine w_nextJ ?_
        obtain rfl := Option.some.inj hbe176
        replace hore176 := Mi.or_inr hore176
        exact ⟨_, (some (.int x181)), (some (.ref p186)), rfl, c0, r0, r118, r27, r91, r107, r168, hore176⟩
      obtain ⟨s177, y178, y179, rfl, c0, r0, r118, r27, r91, r107, r168, hle176⟩ := hp
      obtain rfl := Mi.forR_end hle176
      replace hbe127 := Mi.orL_inr hbe127
      refine w_nextJ ?_
      obtain rfl := Option.some.inj hbe127
      replace hore127 := Mi.or_inr hore127
      exact ⟨_, (some (.int x135)), (some (.int q147.1)), (some (.str (toS x163))), y178, y179, rfl, c0, r0, r118, r27, r91, r107, hore127⟩
    obtain ⟨s128, y129, y130, y131, y132, y133, rfl, c0, r0, r118, r27, r91, r107, hle127⟩ := hp
    obtain rfl := Mi.forR_end hle127
    replace hm := Mi.orR_inr hm
    refine q_ret ?_
    refine c_val val_c ?_
    obtain rfl := Option.some.inj hm
    exact hQ _ c0 
end
end G

set_option maxHeartbeats 0
namespace G
open PySem PySem.Spec PyProof.Rows L2
theorem fun_of {K : PySem.W.Frag} {x q : Str} {st : Stmt} {f : Addr} {fd : FuncData} (F : FunD K x q (defArgs st) (defBody st) (defScope st) [] [] f fd) : Fun K x q st f fd := by
  obtain ⟨oc, od, dV, kV, doc, pm, an, cdv, ct, osl, e, lk, hcd, hd, _⟩ := F.ex
  rcases hd with ⟨_, rfl⟩ | ⟨z, _⟩
  · exact ⟨⟨oc, od, kV, doc, pm, an, cdv, ct, osl, e, lk, hcd⟩, F.kp⟩
  · exact absurd rfl z
def dOf (x : Str) (i : Nat) : He.DefD := ⟨(x, none), x, x, defArgs (topS i), defBody (topS i), defScope (topS i), [], []⟩
def dOfD (x : Str) (i : Nat) (dv : List He.Dv) : He.DefD := ⟨(x, none), x, x, defArgs (topS i), defBody (topS i), defScope (topS i), dv, []⟩
def dOfM (c m qual : Str) (st : Stmt) (kw : List (Str × He.Dv)) : He.DefD := ⟨(c, some m), m, qual, defArgs st, defBody st, defScope st, [], kw⟩
def fnL : List He.DefD := [dOf "every_place" 6, dOf "is_pattern" 14, dOfM "Light" "__init__" "Light.__init__" s_Light_init [("reach", .int 1)], dOf "is_zone" 18, dOf "good_numbers" 24, dOf "good_depths" 25, dOf "good_lanes" 26, dOf "good_tide" 27, dOf "good_harbours" 28, dOf "ordered_lanes" 29, dOf "joined_places" 30, dOfM "Chart" "__init__" "Chart.__init__" s_Chart_init [("tide", .adr (kwdAt ("Chart", some "__init__") "tide")), ("harbours", .adr (kwdAt ("Chart", some "__init__") "harbours"))], dOfM "Chart" "neighbours" "Chart.neighbours" s_Chart_neighbours [], dOf "allowed_neighbours" 7, dOf "flood" 8, dOf "sight_zone" 16, dOf "_law_hand" 33, dOf "_law_pick" 34, dOf "_law_int" 35, dOf "_law_some" 36, dOf "_law_sea" 37, dOf "_law_chart" 38, dOf "_law_touches" 39, dOf "_law_thinned" 40, dOf "_law_near" 41, dOf "_law_is_zone" 42, dOf "_law_sights_hold" 43, dOf "law" 44]
def faL : List He.Fa := [.glo "every_place", .glo "is_pattern", .mkr "Light", .glo "is_zone", .glo "good_numbers", .glo "good_depths", .glo "good_lanes", .glo "good_tide", .glo "good_harbours", .glo "ordered_lanes", .glo "joined_places", .mkr "Chart", .meth "Chart" "neighbours", .glo "allowed_neighbours", .glo "flood", .glo "sight_zone", .glo "_law_hand", .glo "_law_pick", .glo "_law_int", .glo "_law_some", .glo "_law_sea", .glo "_law_chart", .glo "_law_touches", .glo "_law_thinned", .glo "_law_near", .glo "_law_is_zone", .glo "_law_sights_hold", .glo "law", .free "len", .free "range", .free "int", .free "bool", .free "isinstance", .free "max", .free "min", .free "list", .free "tuple", .free "sorted", .free "set", .free "enumerate", .free "zip", .free "reversed", .free "sum", .free "any", .free "all", .free "str", .int "GREATEST_DEPTH" 99, .int "GREATEST_TIDE" 20, .int "LAST_PLACE" 11, .int "MOST_PLACES" 12, .int "MOST_REACH" 3, .int "MOST_SIGNS" 12, .int "MOST_TIDE_NUMBERS" 12, .str "SIGNS" "*.", .glo "Light", .cls "Light", .noat "Light" "place", .noat "Light" "pattern", .noat "Light" "reach", .glo "Chart", .cls "Chart", .noat "Chart" "size", .noat "Chart" "depths", .noat "Chart" "lanes", .noat "Chart" "tide", .noat "Chart" "harbours", .noat "Chart" "joined"]
abbrev R : PySem.W.OpenRow := PySem.W.OpenLaw.row PySem.Challenge.rw_fogfleet_k14_sight_zone
def exL (K : PySem.W.Frag) : Bool := tupAt K (kwdAt ("Chart", some "__init__") "tide" K) (([0] : List Int).map He.Dv.int) && tupAt K (kwdAt ("Chart", some "__init__") "harbours" K) (([] : List Int).map He.Dv.int)
abbrev hk : PySem.W.Hook := hookE 6 faL fnL exL
def ob (s : PySem.W.SharedT) : He.AlD × Bool := obsEG 6 faL fnL exL (HandSHeadRun.getT s)
theorem ob_eq (s : PySem.W.SharedT) : ob s = hk.obs s.abs := obsEG_eq (HandSHeadRun.getT_eq s)
def looseL : List Str := (["_wall", "FleetError", "InvalidChart", "InvalidLight", "every_place", "allowed_neighbours", "flood", "SIGNS", "MOST_SIGNS", "LAST_PLACE", "MOST_REACH", "is_pattern", "Light", "sight_zone", "is_zone", "MOST_PLACES", "GREATEST_DEPTH", "MOST_TIDE_NUMBERS", "GREATEST_TIDE", "good_numbers"] : List Str) ++ (["good_depths", "good_lanes", "good_tide", "good_harbours", "ordered_lanes", "joined_places", "Chart", "_law_hand", "_law_pick", "_law_int", "_law_some", "_law_sea", "_law_chart", "_law_touches", "_law_thinned", "_law_near", "_law_is_zone", "_law_sights_hold"] : List Str)
theorem run (w : World) : HandSHeadRun.RunEq R (PySem.W.view R.prog [44]) hk ob 6000 looseL w := by
  intro os
  kernel_rfl
theorem dfn_of {K : PySem.W.Frag} {h : Heap} {mg : Str → Option Value} (X : K.In h) (G : h.Ns mainGlobals mg) (c : He.SaysD faL fnL K) (i j k : Nat) (x : Str) (hi : fnL[i]? = some (dOf x k)) (hj : faL[j]? = some (.glo x)) : Dfn K mg x (topS k) := by
  obtain ⟨fd, F⟩ := c.def_ i hi
  exact ⟨⟨_, fd, fun_of F, He.glo_ok X G (c.fact j hj)⟩⟩
theorem dfnD_of {K : PySem.W.Frag} {h : Heap} {mg : Str → Option Value} (X : K.In h) (G : h.Ns mainGlobals mg) (c : He.SaysD faL fnL K) (i j k : Nat) (x : Str) (dv : List He.Dv) (hi : fnL[i]? = some (dOfD x k dv)) (hj : faL[j]? = some (.glo x)) : DfnD K mg x (topS k) (dv.map (He.Dv.v K)) := by
  obtain ⟨fd, F⟩ := c.def_ i hi
  exact ⟨⟨_, fd, F, He.glo_ok X G (c.fact j hj)⟩⟩
theorem dfnM_of {K : PySem.W.Frag} (c : He.SaysD faL fnL K) (i j : Nat) (C m qual : Str) (st : Stmt) (hi : fnL[i]? = some (dOfM C m qual st [])) (hj : faL[j]? = some (.meth C m)) : DfnM K (He.ga K C) m qual st := by
  obtain ⟨fd, F⟩ := c.def_ i hi
  exact ⟨⟨_, fd, fun_of F, He.meth_ok (c.fact j hj)⟩⟩
theorem dfnI_of {K : PySem.W.Frag} (c : He.SaysD faL fnL K) (i j : Nat) (C qual : Str) (st : Stmt) (kw : List (Str × He.Dv)) (hi : fnL[i]? = some (dOfM C "__init__" qual st kw)) (hj : faL[j]? = some (.mkr C)) : DfnI K (He.ga K C) qual st (kw.map fun q => (q.1, q.2.v K)) := by
  obtain ⟨fd, F⟩ := c.def_ i hi
  exact ⟨⟨_, fd, F, He.mkr_ok (c.fact j hj)⟩⟩
theorem facts {P : Program} {w : World} {K : PySem.W.Frag} {h : Heap} {mg : Str → Option Value} (X : K.In h) (G : h.Ns mainGlobals mg) (c : He.SaysD faL fnL K) (ce : exL K = true) {fa : Addr} (hfa : mg ("law" : Str) = some (.ref fa)) :
    ∃ fd : FuncData, (∀ (s : Shared) (v : Value), BindsTo s fd ⟨[v], []⟩ [("_law_script", v)]) ∧ ∀ base : Heap, K.In base → base.Ns mainGlobals mg → FnOk P w K mg base CX0 8 fa fd ["_law_script"] (sp_law K) := by
  have B : Bi mg := ⟨He.free_ok X G (c.fact 28 rfl), He.free_ok X G (c.fact 29 rfl), He.free_ok X G (c.fact 30 rfl), He.free_ok X G (c.fact 31 rfl), He.free_ok X G (c.fact 32 rfl), He.free_ok X G (c.fact 33 rfl), He.free_ok X G (c.fact 34 rfl), He.free_ok X G (c.fact 35 rfl), He.free_ok X G (c.fact 36 rfl), He.free_ok X G (c.fact 37 rfl), He.free_ok X G (c.fact 38 rfl), He.free_ok X G (c.fact 39 rfl), He.free_ok X G (c.fact 40 rfl), He.free_ok X G (c.fact 41 rfl), He.free_ok X G (c.fact 42 rfl), He.free_ok X G (c.fact 43 rfl), He.free_ok X G (c.fact 44 rfl), He.free_ok X G (c.fact 45 rfl)⟩
  obtain ⟨ce1_, ce1⟩ := He.ba (show (_ && _) = true from ce)
  have ce0 := ce1_
  have CN : Cs K mg := ⟨He.int_ok X G (c.fact 46 rfl), He.int_ok X G (c.fact 47 rfl), He.int_ok X G (c.fact 48 rfl), He.int_ok X G (c.fact 49 rfl), He.int_ok X G (c.fact 50 rfl), He.int_ok X G (c.fact 51 rfl), He.int_ok X G (c.fact 52 rfl), He.str_ok X G (c.fact 53 rfl), tupAt_ints ce0, tupAt_ints ce1⟩
  have T_Light : Tx K mg (He.ga K "Light") "Light" nm_Light := ⟨He.cls_ok (c.fact 55 rfl), He.glo_ok X G (c.fact 54 rfl), fun f hf => by
    simp only [List.mem_cons, List.not_mem_nil, or_false] at hf
    rcases hf with rfl | rfl | rfl
    · exact He.noat_ok (c.fact 56 rfl)
    · exact He.noat_ok (c.fact 57 rfl)
    · exact He.noat_ok (c.fact 58 rfl)⟩
  have T_Chart : Tx K mg (He.ga K "Chart") "Chart" nm_Chart := ⟨He.cls_ok (c.fact 60 rfl), He.glo_ok X G (c.fact 59 rfl), fun f hf => by
    simp only [List.mem_cons, List.not_mem_nil, or_false] at hf
    rcases hf with rfl | rfl | rfl | rfl | rfl | rfl
    · exact He.noat_ok (c.fact 61 rfl)
    · exact He.noat_ok (c.fact 62 rfl)
    · exact He.noat_ok (c.fact 63 rfl)
    · exact He.noat_ok (c.fact 64 rfl)
    · exact He.noat_ok (c.fact 65 rfl)
    · exact He.noat_ok (c.fact 66 rfl)⟩
  have C_every_place : Cal P w K mg "every_place" ["chart"] 1 (sp_every_place K (He.ga K "Chart")) := ok_every_place B CN (dfn_of X G c 0 0 6 "every_place" rfl rfl) T_Chart
  have C_is_pattern : Cal P w K mg "is_pattern" ["text"] 1 (sp_is_pattern K) := ok_is_pattern B CN (dfn_of X G c 1 1 14 "is_pattern" rfl rfl)
  have I_Light : CalI P w K mg (He.ga K "Light") "Light.__init__" s_Light_init (kw_Light K) ["self", "place", "pattern", "reach"] 2 (sp_Light_init K (He.ga K "Light")) := ok_Light_init B CN T_Light C_is_pattern (dfnI_of c 2 2 "Light" "Light.__init__" s_Light_init [("reach", .int 1)] rfl rfl)
  have C_is_zone : Cal P w K mg "is_zone" ["zone", "size"] 1 (sp_is_zone K) := ok_is_zone B CN (dfn_of X G c 3 3 18 "is_zone" rfl rfl)
  have C_good_numbers : Cal P w K mg "good_numbers" ["numbers", "most", "greatest"] 1 (sp_good_numbers K) := ok_good_numbers B CN (dfn_of X G c 4 4 24 "good_numbers" rfl rfl)
  have C_good_depths : Cal P w K mg "good_depths" ["depths"] 2 (sp_good_depths K) := ok_good_depths B CN (dfn_of X G c 5 5 25 "good_depths" rfl rfl) C_good_numbers
  have C_good_lanes : Cal P w K mg "good_lanes" ["lanes", "size"] 1 (sp_good_lanes K) := ok_good_lanes B CN (dfn_of X G c 6 6 26 "good_lanes" rfl rfl)
  have C_good_tide : Cal P w K mg "good_tide" ["tide"] 2 (sp_good_tide K) := ok_good_tide B CN (dfn_of X G c 7 7 27 "good_tide" rfl rfl) C_good_numbers
  have C_good_harbours : Cal P w K mg "good_harbours" ["harbours", "size"] 2 (sp_good_harbours K) := ok_good_harbours B CN (dfn_of X G c 8 8 28 "good_harbours" rfl rfl) C_is_zone
  have C_ordered_lanes : Cal P w K mg "ordered_lanes" ["lanes"] 1 (sp_ordered_lanes K) := ok_ordered_lanes B CN (dfn_of X G c 9 9 29 "ordered_lanes" rfl rfl)
  have C_joined_places : Cal P w K mg "joined_places" ["size", "lanes"] 1 (sp_joined_places K) := ok_joined_places B CN (dfn_of X G c 10 10 30 "joined_places" rfl rfl)
  have I_Chart : CalI P w K mg (He.ga K "Chart") "Chart.__init__" s_Chart_init (kw_Chart K) ["self", "depths", "lanes", "tide", "harbours"] 3 (sp_Chart_init K (He.ga K "Chart")) := ok_Chart_init B CN T_Chart C_good_depths C_good_lanes C_good_tide C_good_harbours C_ordered_lanes C_joined_places (dfnI_of c 11 11 "Chart" "Chart.__init__" s_Chart_init [("tide", .adr (kwdAt ("Chart", some "__init__") "tide")), ("harbours", .adr (kwdAt ("Chart", some "__init__") "harbours"))] rfl rfl)
  have M_Chart_neighbours : CalM P w K mg (He.ga K "Chart") "neighbours" ["self", "place"] 1 (sp_Chart_neighbours K (He.ga K "Chart")) := ok_Chart_neighbours B CN T_Chart (dfnM_of c 12 12 "Chart" "neighbours" "Chart.neighbours" s_Chart_neighbours rfl rfl)
  have C_allowed_neighbours : CalY P w K mg "allowed_neighbours" ["chart", "place", "allowed"] N_allowed_neighbours 4 2 (sp_allowed_neighbours K (He.ga K "Chart")) := ok_allowed_neighbours B CN (dfn_of X G c 13 13 7 "allowed_neighbours" rfl rfl) T_Chart M_Chart_neighbours
  have C_flood : Cal P w K mg "flood" ["chart", "start", "allowed"] 5 (sp_flood K (He.ga K "Chart")) := ok_flood B CN (dfn_of X G c 14 14 8 "flood" rfl rfl) T_Chart C_allowed_neighbours
  have C_sight_zone : Cal P w K mg "sight_zone" ["chart", "light"] 6 (sp_sight_zone K (He.ga K "Light") (He.ga K "Chart")) := ok_sight_zone B CN (dfn_of X G c 15 15 16 "sight_zone" rfl rfl) T_Light T_Chart C_every_place C_flood
  have C_l_hand : Cal P w K mg "_law_hand" ["_law_script", "_law_k"] 1 (sp_l_hand K) := ok_l_hand B CN (dfn_of X G c 16 16 33 "_law_hand" rfl rfl)
  have C_l_pick : Cal P w K mg "_law_pick" ["_law_hand_here", "_law_size"] 1 (sp_l_pick K) := ok_l_pick B CN (dfn_of X G c 17 17 34 "_law_pick" rfl rfl)
  have C_l_int : Cal P w K mg "_law_int" ["_law_x"] 1 (sp_l_int K) := ok_l_int B CN (dfn_of X G c 18 18 35 "_law_int" rfl rfl)
  have C_l_some : Cal P w K mg "_law_some" ["_law_hand_here", "_law_size", "_law_share"] 2 (sp_l_some K) := ok_l_some B CN (dfn_of X G c 19 19 36 "_law_some" rfl rfl) C_l_pick
  have C_l_sea : Cal P w K mg "_law_sea" ["_law_hand_here", "_law_most"] 3 (sp_l_sea K) := ok_l_sea B CN (dfn_of X G c 20 20 37 "_law_sea" rfl rfl) C_l_pick C_l_some
  have C_l_chart : Cal P w K mg "_law_chart" ["_law_sea_here"] 5 (sp_l_chart K (He.ga K "Chart")) := ok_l_chart B CN (dfn_of X G c 21 21 38 "_law_chart" rfl rfl) T_Chart I_Chart
  have C_l_touches : Cal P w K mg "_law_touches" ["_law_sea_here", "_law_here", "_law_place"] 1 (sp_l_touches K) := ok_l_touches B CN (dfn_of X G c 22 22 39 "_law_touches" rfl rfl)
  have C_l_thinned : Cal P w K mg "_law_thinned" ["_law_hand_here", "_law_joins"] 2 (sp_l_thinned K) := ok_l_thinned B CN (dfn_of X G c 23 23 40 "_law_thinned" rfl rfl) C_l_pick
  have C_l_near : Cal P w K mg "_law_near" ["_law_sea_here", "_law_place", "_law_far"] 2 (sp_l_near K) := ok_l_near B CN (dfn_of X G c 24 24 41 "_law_near" rfl rfl) C_l_touches
  have C_l_is_zone : Cal P w K mg "_law_is_zone" ["_law_told", "_law_due"] 2 (sp_l_is_zone K) := ok_l_is_zone B CN (dfn_of X G c 25 25 42 "_law_is_zone" rfl rfl) C_l_int
  have C_l_sights_hold : Cal P w K mg "_law_sights_hold" ["_law_charts", "_law_seas", "_law_light", "_law_place", "_law_far"] 7 (sp_l_sights_hold K (He.ga K "Light") (He.ga K "Chart")) := ok_l_sights_hold B CN (dfn_of X G c 26 26 43 "_law_sights_hold" rfl rfl) T_Light T_Chart C_sight_zone C_l_near C_l_is_zone
  have C_law : Cal P w K mg "law" ["_law_script"] 8 (sp_law K) := ok_law B CN (dfn_of X G c 27 27 44 "law" rfl rfl) T_Light T_Chart I_Light C_l_hand C_l_pick C_l_sea C_l_chart C_l_thinned C_l_sights_hold
  exact fn_law hfa C_law
end G

open PySem PySem.W PySem.Calls PyProof.Rows
theorem PySem.Challenge.cw_fogfleet_k14_sight_zone_holds : PySem.Challenge.rw_fogfleet_k14_sight_zone.Holds := by
  w_on; o_law
  refine HandSHeadRun.head_any (r := OpenLaw.row PySem.Challenge.rw_fogfleet_k14_sight_zone) (q := view (OpenLaw.row PySem.Challenge.rw_fogfleet_k14_sight_zone).prog [44]) (H := G.hk) (ob := G.ob) (M := 6000) (loose := G.looseL) (d := HandSHeadRun.topDef (OpenLaw.row PySem.Challenge.rw_fogfleet_k14_sight_zone).prog 44) (kwd := []) G.ob_eq
    (by kernel_rfl) (fun s => by kernel_rfl) G.run (by kernel_rfl) (by kernel_rfl) (by kernel_rfl) (by rfl) (by first | assumption | decide +kernel) (by decide +kernel) ⟨rfl, rfl, rfl, rfl, rfl, by decide +kernel⟩ ?hw ?hc
  case hw => w_witness2
  case hc =>
    refine L2.walk_ofE (l := PySem.Challenge.rw_fogfleet_k14_sight_zone) (n := 63) (k := 8) (x := "_law_script") (CX := L2.CX0) rfl (by decide) (by kernel_rfl) ⟨rfl, by decide, by decide⟩ ?F (fun _ _ _ _ z => z)
    intro w mg fa h Y G0 hmg0
    obtain ⟨K, KX, c, ce⟩ := Y
    have hmg : mg ("law" : PySem.Str) = some (.ref fa) := by
      have e : (HandSHeadRun.topDef (OpenLaw.row PySem.Challenge.rw_fogfleet_k14_sight_zone).prog 44).name = ("law" : PySem.Str) := by kernel_rfl
      rw [← e]
      exact hmg0
    obtain ⟨fd, hb, hF⟩ := G.facts (P := (PySem.Challenge.rw_fogfleet_k14_sight_zone).prog) (w := w) KX G0 c ce hmg
    exact ⟨K, fd, G.sp_law K, KX, hb, fun H a ns hl hO hS => ⟨_, ns, true, rfl, G.yScr_of hO hS, Mi.law_true ns hl, fun _ _ => rfl⟩, hF⟩
