import PyProof.Rows.All
import Wide.All
import OpenK.AllK
import Wide.FinOn
import HandS.ForMost
import HandS.ForExc
import HandS.Wide
import HandS.IsInst
import HandS.Flow
import HandS.Defaults
import HandS.SortInts
import HandS.Strs
import HandS.TupSets
import HandS.MakeKw
import HandS.MakeKwOnly
import HandS.Conv
import HandS.Steps
import KE.GoesMore
import HandS.Text
import HandS.Iter
import HandS.SortRule
import HandS.TupLe
import HandS.HeadHook1
import HandS.HeadHook2
import HandS.Deep
import KE.KRevSl
import HandS.Rev
import HandS.RevTup
import HandS.IterVal
import HandS.OwnIter
import KE.KSuper
import KE.KExcSuper
import KE.KExcIs
import HandS.ExcField
import HandS.ExcOwn
import HandS.WordsExc
import HandS.Head0
import HandS.FStr
import HandS.Star
import PyProof.Rows.MatchSeqLen
import HandS.More
import HandS.Zip
import KE.GoesEnumKw
import HandS.HeadHook3
import KE.GoesEnum
import HandS.DeepEq
import KE.GoesZip
import HandS.GenCall
import HandS.GenList
import HandS.ExcCtx
import HandS.HotCalls
import KE.DataCmp
import HandS.SortKw
import HandS.DictComp
import HandS.SetBool
import HandS.DictTup
import KE.KDictPairs
import HandS.SortOrd
import HandS.Head1
import HandS.Head2
import HandS.TupAny
import PyProof.NeKinds
import HandS.ListEq
import KE.KBits
import HandS.WideBits
import HandS.Dict
import HandS.DictSubView
import KE.KDictList
import HandS.RevRange
import KE.KAssignIn
import KE.KCallOwn
import KE.KDictZip
import HandS.List
import HandS.Flt
import KE.KDictDisplayH
import HandS.WordsDict
import KE.SortCalls
import KE.KLam
import KE.SortKeyHeap
import HandS.Lambda
import PyProof.CodeObj
import HandS.HeadEnd
import HandS.HeadWalk
import KE.KStateDown
import PyProof.ByEval2
import Lean
import PySem.Challenge.RW_fogfleet_k42_berths
set_option Elab.async false
set_option linter.all false
set_option synthInstance.maxSize 1000
set_option maxRecDepth 100000
set_option maxHeartbeats 4000000
namespace Mi
def pyLet {α β : Type} (e : α) (f : α → β) : β := f e
def ixN (n : Nat) (i : Int) : Option Nat := if 0 ≤ i then (if i < n then some i.toNat else none) else if -(n : Int) ≤ i then some (i + n).toNat else none
def at_ {α : Type} (xs : List α) (i : Int) : Option α := (ixN xs.length i).bind fun j => xs[j]?
def setAt {α : Type} (xs : List α) (i : Int) (x : α) : Option (List α) := (ixN xs.length i).bind fun j => some (xs.set j x)
def big : Nat := 1000000
def app {α : Type} (xs : List α) (x : α) : Option (List α) := if xs.length < big then some (xs ++ [x]) else none
def mul (i j : Int) : Option Int := if (-(2 ^ 64) < i ∧ i < 2 ^ 64) ∨ (-(2 ^ 64) < j ∧ j < 2 ^ 64) then some (i * j) else none
def mod (i j : Int) : Option Int := if 0 < j then some (i % j) else none
def fdiv (i j : Int) : Option Int := if 0 < j ∧ j < 2 ^ 200 then some (i / j) else none
def guardO (c : Bool) : Option Unit := if c = true then some () else none
def rng (lo hi : Int) : List Int := (List.range (hi - lo).toNat).map fun (k : Nat) => lo + (k : Int)
def forN {α σ : Type} (f : σ → α → Option σ) : σ → List α → Option σ
 | s, [] => some s
 | s, x :: xs => (f s x).bind fun s' => forN f s' xs
def forR {α σ ρ : Type} (f : σ → α → Option (ρ ⊕ σ)) : σ → List α → Option (ρ ⊕ σ)
 | s, [] => some (.inr s)
 | s, x :: xs => (f s x).bind fun
   | .inl r => some (.inl r)
   | .inr s' => forR f s' xs
def whileN {σ : Type} (c : σ → Option Bool) (b : σ → Option σ) : Nat → σ → Option σ
 | 0, _ => none
 | n + 1, s => (c s).bind fun t => if t = true then (b s).bind fun s' => whileN c b n s' else some s
theorem bnd {α β : Type} {m : Option α} {f : α → Option β} {r : β} (h : m.bind f = some r) : ∃ x, m = some x ∧ f x = some r := by
 cases m with
 | none => cases h
 | some x => exact ⟨x, rfl, h⟩
theorem letE {α β : Type} {e : α} {f : α → Option β} {r : Option β} (h : pyLet e f = r) : ∃ x, e = x ∧ f x = r := ⟨e, rfl, h⟩
theorem ifT {α : Type} {b : Bool} {x y : Option α} {r : Option α} (hb : b = true) (h : (if b = true then x else y) = r) : x = r := by
 rw [if_pos hb] at h; exact h
theorem ifF {α : Type} {b : Bool} {x y : Option α} {r : Option α} (hb : b = false) (h : (if b = true then x else y) = r) : y = r := by
 rw [hb, if_neg Bool.false_ne_true] at h; exact h
end Mi
namespace Mi
def rngO (lo hi : Int) : Option (List Int) := if (-(2 ^ 60) ≤ lo ∧ lo < 2 ^ 60) ∧ (-(2 ^ 60) ≤ hi ∧ hi < 2 ^ 60) then some (rng lo hi) else none
theorem forN_go {α σ : Type} {f : σ → α → Option σ} {s e : σ} {xs : List α} {i : Nat} {x : α} (h : forN f s (xs.drop i) = some e) (hx : xs[i]? = some x) : ∃ s', f s x = some s' ∧ forN f s' (xs.drop (i + 1)) = some e := by
 have hi : i < xs.length := (List.getElem?_eq_some_iff.mp hx).1
 have e1 : xs.drop i = x :: xs.drop (i + 1) := by
   rw [List.drop_eq_getElem_cons hi]
   congr 1
   exact (List.getElem?_eq_some_iff.mp hx).2
 rw [e1] at h
 exact bnd h
theorem forN_end {α σ : Type} {f : σ → α → Option σ} {s e : σ} {xs : List α} (h : forN f s (xs.drop xs.length) = some e) : s = e := by
 rw [List.drop_length] at h
 exact Option.some.inj h
theorem forR_go {α σ ρ : Type} {f : σ → α → Option (ρ ⊕ σ)} {s : σ} {e : ρ ⊕ σ} {xs : List α} {i : Nat} {x : α} (h : forR f s (xs.drop i) = some e) (hx : xs[i]? = some x) :
   ∃ o, f s x = some o ∧ ((∃ r, o = .inl r ∧ e = .inl r) ∨ ∃ s', o = .inr s' ∧ forR f s' (xs.drop (i + 1)) = some e) := by
 have hi : i < xs.length := (List.getElem?_eq_some_iff.mp hx).1
 have e1 : xs.drop i = x :: xs.drop (i + 1) := by
   rw [List.drop_eq_getElem_cons hi]
   congr 1
   exact (List.getElem?_eq_some_iff.mp hx).2
 rw [e1] at h
 obtain ⟨o, h1, h2⟩ := bnd h
 refine ⟨o, h1, ?_⟩
 cases o with
 | inl r => exact .inl ⟨r, rfl, (Option.some.inj h2).symm⟩
 | inr s' => exact .inr ⟨s', rfl, h2⟩
theorem forR_end {α σ ρ : Type} {f : σ → α → Option (ρ ⊕ σ)} {s : σ} {e : ρ ⊕ σ} {xs : List α} (h : forR f s (xs.drop xs.length) = some e) : e = .inr s := by
 rw [List.drop_length] at h
 exact (Option.some.inj h).symm
end Mi
namespace Mi
def orR {ρ σ : Type} (o : ρ ⊕ σ) (k : σ → Option ρ) : Option ρ := match o with
 | .inl r => some r
 | .inr s => k s
theorem orR_inl {ρ σ : Type} {r q : ρ} {k : σ → Option ρ} (h : orR (.inl r) k = some q) : some r = some q := h
theorem orR_inr {ρ σ : Type} {s : σ} {q : ρ} {k : σ → Option ρ} (h : orR (.inr s) k = some q) : k s = some q := h
theorem or_inl {ρ σ : Type} {r : ρ} {e : ρ ⊕ σ} {P : σ → Prop} (h : (∃ r', (Sum.inl r : ρ ⊕ σ) = .inl r' ∧ e = .inl r') ∨ ∃ s', (Sum.inl r : ρ ⊕ σ) = .inr s' ∧ P s') : e = .inl r := by
 rcases h with ⟨r', h1, h2⟩ | ⟨s', h1, _⟩
 · cases h1; exact h2
 · cases h1
theorem or_inr {ρ σ : Type} {s : σ} {e : ρ ⊕ σ} {P : σ → Prop} (h : (∃ r', (Sum.inr s : ρ ⊕ σ) = .inl r' ∧ e = .inl r') ∨ ∃ s', (Sum.inr s : ρ ⊕ σ) = .inr s' ∧ P s') : P s := by
 rcases h with ⟨r', h1, h2⟩ | ⟨s', h1, h2⟩
 · cases h1
 · cases h1; exact h2
end Mi
namespace Mi
def sortI (xs : List Int) : List Int := xs.mergeSort fun a b => decide (a ≤ b)
def sadd (xs : List Int) (k : Int) : Option (List Int) := if xs.length < 4000 then some (if xs.contains k = true then xs else xs ++ [k]) else none
def lMax (xs : List Int) : Option Int := xs.head?.map fun x => xs.foldl max x
end Mi
namespace Mi
end Mi
namespace Mi
def repL {α : Type} (xs : List α) (k : Int) : Option (List α) := if -(2 ^ 60) ≤ k ∧ k < 2 ^ 60 ∧ xs.length * k.toNat ≤ big then some (List.replicate k.toNat xs).flatten else none
end Mi
namespace Mi
def ext {α : Type} (xs ys : List α) : Option (List α) := if xs.length + ys.length ≤ big then some (xs ++ ys) else none
end Mi
namespace Mi
theorem whileN_go {σ : Type} {c : σ → Option Bool} {b : σ → Option σ} {m : Nat} {s e : σ} (h : whileN c b m s = some e) : ∃ n t, m = n + 1 ∧ c s = some t ∧ (if t = true then (b s).bind fun s' => whileN c b n s' else some s) = some e := by
 cases m with
 | zero => cases h
 | succ n =>
   obtain ⟨t, h1, h2⟩ := bnd (show (c s).bind (fun t => if t = true then (b s).bind fun s' => whileN c b n s' else some s) = some e from h)
   exact ⟨n, t, rfl, h1, h2⟩
end Mi
namespace Mi
end Mi
namespace Mi
end Mi
namespace Mi
end Mi
namespace Mi
end Mi
namespace Mi
end Mi
namespace Mi
end Mi
namespace Mi
end Mi
namespace Mi
end Mi
namespace Mi
end Mi
namespace Mi
def yld {β : Type} [DecidableEq β] (tot : List β) (y : Int) (d : β) : Option Int := if 0 ≤ y ∧ tot[y.toNat]? = some d then some (y + 1) else none
end Mi
namespace Mi
end Mi
namespace Mi
end Mi
namespace Mi
def ltPairB (a b : Int × Int) : Bool := if a.1 = b.1 then decide (a.2 < b.2) else decide (a.1 < b.1)
end Mi
namespace Mi
end Mi
namespace Mi
def sortIx (ks : List Int) : List Int := (rng 0 (ks.length : Int)).mergeSort fun a b => decide (ks[a.toNat]?.getD 0 ≤ ks[b.toNat]?.getD 0)
end Mi
namespace Mi
def m_overlap (d0 : (Int × Int)) (d1 : (Int × Int)) : Option Bool :=
 some ((decide (d0.1 ≤ d1.2)) && (decide (d1.1 ≤ d0.2)))
def m_busy_hour_b1  (s4 : (List Int)) (x14 : (Int × Int)) : Option (List Int) :=
 (app s4 x14.1).bind fun x27 =>
 some x27
def m_busy_hour_b3 (x42 : Int) (s48 : (List Int)) (x59 : (Int × Int)) : Option (List Int) :=
 if ((decide (x59.1 ≤ x42)) && (decide (x42 ≤ x59.2))) = true then ((app s48 x59.1).bind fun x72 =>
 some x72) else (some s48)
def m_busy_hour_b2 (d0 : (List (Int × Int))) (d1 : Int) (s39 : Unit) (x42 : Int) : Option ((Option Int) ⊕ Unit) :=
 (forN (m_busy_hour_b3 x42) ([] : (List Int)) d0).bind fun s48 =>
 if (decide ((s48.length : Int) = d1)) = true then
 (some (.inl (some x42)))
 else
 some (.inr ())
def m_busy_hour (d0 : (List (Int × Int))) (d1 : Int) : Option (Option Int) :=
 (forN (m_busy_hour_b1) ([] : (List Int)) d0).bind fun s4 =>
 (forR (m_busy_hour_b2 d0 d1) () (Mi.sortI s4)).bind fun e38 => orR e38 fun s39 =>
 some (none : (Option Int))
def m_berths_b2 (d0 : (List (Int × Int))) (s41 : ((List Int) × (List Int))) (x46 : Int) (s51 : (List Int)) (x63 : Int) : Option (List Int) :=
 (at_ d0 x46).bind fun x70 =>
 (at_ d0 x63).bind fun x74 =>
 (m_overlap x70 x74).bind fun q78 =>
 if q78 = true then ((at_ s41.1 x63).bind fun x81 =>
 (sadd s51 x81).bind fun x82 =>
 some x82) else (some s51)
def m_berths_c3 (s51 : (List Int)) (s87 : Int) : Option Bool :=
 some (s51.contains s87)
def m_berths_b3  (s87 : Int) : Option Int :=
 pyLet (s87 + (1 : Int) : Int) fun number91 =>
 some number91
def m_berths_b1 (d0 : (List (Int × Int))) (s41 : ((List Int) × (List Int))) (x46 : Int) : Option ((List Int) × (List Int)) :=
 (forN (m_berths_b2 d0 s41 x46) ([] : (List Int)) s41.2).bind fun s51 =>
 pyLet ((0 : Int) : Int) fun number85 =>
 (whileN (m_berths_c3 s51) (m_berths_b3) 1000 number85).bind fun s87 =>
 (setAt s41.1 x46 s87).bind fun x92 =>
 (app s41.2 x46).bind fun x95 =>
 some (x92, x95)
def m_berths (d0 : (List (Int × Int))) : Option (Int × (List Int) × (Option Int)) :=
 (repL [(0 : Int)] (d0.length : Int)).bind fun x10 =>
 (guardO (decide (d0.length ≤ 1000))).bind fun z29 =>
 (forN (m_berths_b1 d0) (x10, ([] : (List Int))) (Mi.sortIx (d0.map (fun s : Int × Int => s.1)))).bind fun s41 =>
 ( if (!s41.2.isEmpty) = true then (lMax s41.1).bind fun x103 => some (x103 + (1 : Int)) else some (0 : Int) : Option Int).bind fun x98 =>
 (m_busy_hour d0 x98).bind fun q104 =>
 some (x98, s41.1, q104)
def m_l_hand (d0 : (List Int)) (d1 : Int) : Option (List Int) :=
 pyLet ((0 : Int) : Int) fun cell3 =>
 (if (decide (d1 < (d0.length : Int))) = true then ((at_ d0 d1).bind fun x5 =>
 pyLet (x5 : Int) fun cell6 =>
 some cell6) else (some cell3) : Option Int).bind fun s4 =>
 (if (decide (s4 < (0 : Int))) = true then (pyLet (((1 : Int) - ((2 : Int) * s4)) : Int) fun cell8 =>
 some cell8) else (some s4) : Option Int).bind fun s7 =>
 pyLet ((0 : Int) : Int) fun rest9 =>
 (if (decide (((10 : Int) ^ 18) ≤ s7)) = true then (pyLet (s7 : Int) fun rest11 =>
 some rest11) else (some rest9) : Option Int).bind fun s10 =>
 some [s10, (((s7 + ((7919 : Int) * d1)) + (13 : Int)) % (2147483647 : Int)), (0 : Int)]
def m_l_pick (d0 : (List Int)) (d1 : Int) : Option (Int × (List Int)) :=
 if (decide (d1 < (1 : Int))) = true then
 (some ((0 : Int), d0))
 else
 (at_ d0 (0 : Int)).bind fun x3 =>
 if (decide ((0 : Int) < x3)) = true then
 ((at_ d0 (0 : Int)).bind fun x4 =>
 (mod x4 d1).bind fun x5 =>
 pyLet (x5 : Int) fun digit6 =>
 (at_ d0 (0 : Int)).bind fun x7 =>
 (fdiv x7 d1).bind fun x8 =>
 (setAt d0 (0 : Int) x8).bind fun x9 =>
 some (digit6, x9))
 else
 (at_ d0 (2 : Int)).bind fun x12 =>
 (setAt d0 (2 : Int) (x12 + (1 : Int))).bind fun x13 =>
 (at_ x13 (1 : Int)).bind fun x16 =>
 (at_ x13 (2 : Int)).bind fun x17 =>
 pyLet ((((x16 + ((7919 : Int) * x17)) + (13 : Int)) % (2147483647 : Int)) : Int) fun mixed18 =>
 (mul mixed18 (mixed18 + (48271 : Int))).bind fun x19 =>
 pyLet ((x19 % (2147483629 : Int)) : Int) fun mixed20 =>
 (mul mixed20 (mixed20 + (69621 : Int))).bind fun x21 =>
 (at_ x13 (2 : Int)).bind fun x22 =>
 pyLet (((x21 + ((31 : Int) * x22)) % (2147483647 : Int)) : Int) fun mixed23 =>
 (mod (mixed23 / (9 : Int)) d1).bind fun x24 =>
 some (x24, x13)
def m_l_int_0 (d0 : Int) : Option Bool :=
 some (true && (!false))
def m_l_int_1 (d0 : (Option Int)) : Option Bool :=
 some ((d0.isSome && true) && (!(d0.isSome && false)))
def m_l_spans_b1 (x37 : Int) (s42 : ((List Int) × (List (Int × Int)))) (x46 : Int) : Option ((List Int) × (List (Int × Int))) :=
 (m_l_pick s42.1 x37).bind fun q48 =>
 (m_l_pick q48.2 (2 : Int)).bind fun q59 =>
 (at_ [(3 : Int), (12 : Int)] q59.1).bind fun x62 =>
 (m_l_pick q59.2 x62).bind fun q65 =>
 (app s42.2 (q48.1, (q48.1 + q65.1))).bind fun x73 =>
 some (q65.2, x73)
def m_l_spans (d0 : (List Int)) : Option ((List (Int × Int)) × (List Int)) :=
 (m_l_pick d0 (8 : Int)).bind fun q17 =>
 (at_ [(11 : Int), (11 : Int), (11 : Int), (11 : Int), (5 : Int), (11 : Int), (11 : Int), (31 : Int)] q17.1).bind fun x20 =>
 (m_l_pick q17.2 x20).bind fun q23 =>
 (m_l_pick q23.2 (3 : Int)).bind fun q34 =>
 (at_ [(9 : Int), (25 : Int), (97 : Int)] q34.1).bind fun x37 =>
 (rngO 0 q23.1).bind fun g40 =>
 (forN (m_l_spans_b1 x37) (q34.2, ([] : (List (Int × Int)))) g40).bind fun s42 =>
 some (s42.2, s42.1)
def m_l_meet (d0 : (Int × Int)) (d1 : (Int × Int)) : Option Bool :=
 some ((decide (d0.1 ≤ d1.2)) && (decide (d1.1 ≤ d0.2)))
def m_l_earlier_b1 (d0 : (List (Int × Int))) (d1 : Int) (s5 : (List Int)) (x14 : Int) : Option (List Int) :=
 (at_ d0 x14).bind fun x23 =>
 (at_ d0 d1).bind fun x38 =>
 if (ltPairB (x23.1, x14) (x38.1, d1)) = true then ((app s5 x14).bind fun x53 =>
 some x53) else (some s5)
def m_l_earlier_b2 (d0 : (List (Int × Int))) (d1 : Int) (s57 : (List Int)) (x67 : Int) : Option (List Int) :=
 (at_ d0 x67).bind fun x76 =>
 (at_ d0 d1).bind fun x80 =>
 (m_l_meet x76 x80).bind fun q84 =>
 if q84 = true then ((app s57 x67).bind fun x87 =>
 some x87) else (some s57)
def m_l_earlier (d0 : (List (Int × Int))) (d1 : Int) : Option (List Int) :=
 (rngO 0 (d0.length : Int)).bind fun g3 =>
 (forN (m_l_earlier_b1 d0 d1) ([] : (List Int)) g3).bind fun s5 =>
 (forN (m_l_earlier_b2 d0 d1) ([] : (List Int)) s5).bind fun s57 =>
 some s57
def m_l_numbers_hold_b2 (d1 : (List Int)) (s30 : (List Int)) (x41 : Int) : Option (List Int) :=
 (at_ d1 x41).bind fun x50 =>
 (app s30 x50).bind fun x51 =>
 some x51
def m_l_numbers_hold_b3 (s30 : (List Int)) (s59 : (List Int)) (x70 : Int) : Option (List Int) :=
 if (!(s30.contains x70)) = true then ((app s59 x70).bind fun x79 =>
 some x79) else (some s59)
def m_l_numbers_hold_b1 (d0 : (List (Int × Int))) (d1 : (List Int)) (s6 : Unit) (x10 : Int) : Option (Bool ⊕ Unit) :=
 ((at_ d1 x10).bind fun x14 => (m_l_int_0 x14).bind fun q15 => if (!q15) = true then some true else (at_ d1 x10).bind fun x18 => if (decide (x18 < (0 : Int))) = true then some true else (at_ d1 x10).bind fun x19 => some (decide ((d0.length : Int) ≤ x19)) : Option Bool).bind fun b13 =>
 if b13 = true then
 (some (.inl false))
 else
 (m_l_earlier d0 x10).bind fun q20 =>
 (forN (m_l_numbers_hold_b2 d1) ([] : (List Int)) q20).bind fun s30 =>
 ((at_ d1 x10).bind fun x55 => if (s30.contains x55) = true then some true else (at_ d1 x10).bind fun x56 => (rngO 0 x56).bind fun g57 => (forN (m_l_numbers_hold_b3 s30) ([] : (List Int)) g57).bind fun s59 => some (decide ((0 : Int) < (s59.length : Int))) : Option Bool).bind fun b54 =>
 if b54 = true then
 (some (.inl false))
 else
 some (.inr ())
def m_l_numbers_hold (d0 : (List (Int × Int))) (d1 : (List Int)) : Option Bool :=
 if ((!true) || (!(decide ((d1.length : Int) = (d0.length : Int))))) = true then
 (some false)
 else
 (rngO 0 (d0.length : Int)).bind fun g4 =>
 (forR (m_l_numbers_hold_b1 d0 d1) () g4).bind fun e5 => orR e5 fun s6 =>
 some true
def m_l_many_b1 (d1 : Int) (s4 : (List (Int × Int))) (x13 : (Int × Int)) : Option (List (Int × Int)) :=
 if ((decide (x13.1 ≤ d1)) && (decide (d1 ≤ x13.2))) = true then ((app s4 x13).bind fun x35 =>
 some x35) else (some s4)
def m_l_many (d0 : (List (Int × Int))) (d1 : Int) : Option Int :=
 (forN (m_l_many_b1 d1) ([] : (List (Int × Int))) d0).bind fun s4 =>
 some (s4.length : Int)
def m_l_berths_hold_b1 (d0 : (Int × (List Int) × (Option Int))) (d1 : (List (Int × Int))) (s75 : Unit) (x79 : (Int × Int)) : Option (Bool ⊕ Unit) :=
 (m_l_many d1 x79.1).bind fun q90 =>
 (if (decide (d0.1 < q90)) = true then some true else (if (decide (q90 = d0.1)) = true then (d0.2.2).bind fun x119 => some (decide (x79.1 < x119)) else some false).bind fun b120 => some b120).bind fun b121 =>
 if b121 = true then
 (some (.inl false))
 else
 some (.inr ())
def m_l_berths_hold_b2  (s129 : (List Int)) (x139 : (Int × Int)) : Option (List Int) :=
 (app s129 x139.1).bind fun x154 =>
 some x154
def m_l_berths_hold (d0 : (Int × (List Int) × (Option Int))) (d1 : (List (Int × Int))) : Option Bool :=
 ( if (!true) = true then some true else  if (!(decide ((3 : Int) = (3 : Int)))) = true then some true else (m_l_int_0 d0.1).bind fun q10 => some (!q10) : Option Bool).bind fun b3 =>
 if b3 = true then
 (some false)
 else
 (m_l_numbers_hold d1 d0.2.1).bind fun q19 =>
 if (!q19) = true then
 (some false)
 else
 if (decide ((d1.length : Int) = (0 : Int))) = true then
 (some ((decide (d0.1 = (0 : Int))) && d0.2.2.isNone))
 else
 ((lMax d0.2.1).bind fun x48 => if (!(decide (d0.1 = (x48 + (1 : Int))))) = true then some true else (m_l_int_1 d0.2.2).bind fun q55 => if (!q55) = true then some true else (d0.2.2).bind fun x64 => (m_l_many d1 x64).bind fun q65 => some (!(decide (q65 = d0.1))) : Option Bool).bind fun b35 =>
 if b35 = true then
 (some false)
 else
 (forR (m_l_berths_hold_b1 d0 d1) () d1).bind fun e74 => orR e74 fun s75 =>
 (forN (m_l_berths_hold_b2) ([] : (List Int)) d1).bind fun s129 =>
 (d0.2.2).bind fun x157 =>
 some (s129.contains x157)
def m_law_b1  (s38 : Unit) (x43 : (List (Int × Int))) : Option (Bool ⊕ Unit) :=
 (m_berths x43).bind fun q56 =>
 ((m_l_berths_hold q56 x43).bind fun q68 => if (!q68) = true then some true else some (!(decide (x43 = x43))) : Option Bool).bind fun b67 =>
 if b67 = true then
 (some (.inl false))
 else
 (app q56.2.1 (99 : Int)).bind fun x87 =>
 some (.inr ())
def m_law (d0 : (List Int)) : Option Bool :=
 (m_l_hand d0 (0 : Int)).bind fun q2 =>
 (m_l_spans q2).bind fun q11 =>
 (m_l_hand d0 (1 : Int)).bind fun q16 =>
 (m_l_spans q16).bind fun q25 =>
 (forR (m_law_b1) () [q11.1, q25.1, q11.1]).bind fun e37 => orR e37 fun s38 =>
 some true
end Mi
namespace Mi
def Hd (h : List Int) : Prop := ∃ a b c : Int, h = [a, b, c] ∧ 0 ≤ a
theorem mod_ok {i j : Int} (h : 0 < j) : mod i j = some (i % j) := if_pos h
theorem fdiv_ok {i j : Int} (h : 0 < j) (h2 : j < 2 ^ 200) : fdiv i j = some (i / j) := if_pos ⟨h, h2⟩
theorem mul_okL {i j : Int} (h : -(2 ^ 64) < i) (h2 : i < 2 ^ 64) : mul i j = some (i * j) := if_pos (.inl ⟨h, h2⟩)
theorem app_ok {α : Type} {xs : List α} {x : α} (h : xs.length < big) : app xs x = some (xs ++ [x]) := if_pos h
theorem rngO_ok {lo hi : Int} (h1 : -(2 ^ 60) ≤ lo) (h2 : lo < 2 ^ 60) (h3 : -(2 ^ 60) ≤ hi) (h4 : hi < 2 ^ 60) : rngO lo hi = some (rng lo hi) := if_pos ⟨⟨h1, h2⟩, h3, h4⟩
theorem at0 {α : Type} (a : α) (l : List α) : at_ (a :: l) 0 = some a := by
 unfold at_ ixN
 rw [if_pos (by decide), if_pos (by rw [List.length_cons]; omega)]
 rfl
theorem at_nat {α : Type} {xs : List α} {j : Nat} {x : α} (h : xs[j]? = some x) : at_ xs (j : Int) = some x := by
 have hj : j < xs.length := (List.getElem?_eq_some_iff.mp h).1
 unfold at_ ixN
 rw [if_pos (by omega), if_pos (by omega), Int.toNat_natCast]
 exact h
theorem at_int {α : Type} {xs : List α} {i : Int} {x : α} (h0 : 0 ≤ i) (h : xs[i.toNat]? = some x) : at_ xs i = some x := by
 have e : i = (i.toNat : Int) := by omega
 rw [e]; exact at_nat h
theorem at_some {α : Type} {xs : List α} {i : Int} (h0 : 0 ≤ i) (h1 : i < xs.length) : ∃ x, at_ xs i = some x ∧ xs[i.toNat]? = some x := by
 have hj : i.toNat < xs.length := by omega
 exact ⟨xs[i.toNat], at_int h0 (List.getElem?_eq_getElem hj), List.getElem?_eq_getElem hj⟩
theorem hand_ok (s : List Int) (k : Int) (hk : 0 ≤ k) : ∃ h, m_l_hand s k = some h ∧ Hd h := by
 simp only [m_l_hand, pyLet]
 have hc : ∃ c, (if decide (k < (s.length : Int)) = true then (at_ s k).bind fun x3 => some x3 else some 0 : Option Int) = some c := by
   by_cases h : k < (s.length : Int)
   · rw [if_pos (decide_eq_true h)]
     obtain ⟨x, hx, _⟩ := at_some hk h
     rw [hx]
     exact ⟨x, rfl⟩
   · rw [if_neg (by simpa using h)]
     exact ⟨0, rfl⟩
 obtain ⟨c, hc⟩ := hc
 rw [hc]
 show ∃ h, (Option.bind (if decide (c < 0) = true then some (1 - 2 * c) else some c) _) = some h ∧ Hd h
 have hd : ∃ d, (if decide (c < 0) = true then some (1 - 2 * c) else some c) = some d ∧ 0 ≤ d := by
   by_cases h : c < 0
   · rw [if_pos (decide_eq_true h)]
     exact ⟨_, rfl, by omega⟩
   · rw [if_neg (by simpa using h)]
     exact ⟨c, rfl, by omega⟩
 obtain ⟨d, hd, h0⟩ := hd
 rw [hd]
 show ∃ h, (Option.bind (if decide (((10 : Int) ^ 18) ≤ d) = true then some d else some 0) _) = some h ∧ Hd h
 by_cases h : ((10 : Int) ^ 18) ≤ d
 · rw [if_pos (decide_eq_true h)]
   exact ⟨_, rfl, _, _, _, rfl, h0⟩
 · rw [if_neg (by simpa using h)]
   exact ⟨_, rfl, _, _, _, rfl, by omega⟩
theorem pick_ok {h : List Int} (hh : Hd h) {n : Int} (hn : 1 ≤ n) (hN : n < 2 ^ 200) : ∃ r h', m_l_pick h n = some (r, h') ∧ 0 ≤ r ∧ r < n ∧ Hd h' := by
 obtain ⟨a, b, c, rfl, ha⟩ := hh
 have i0 : ∀ x y z : Int, at_ [x, y, z] 0 = some x := fun _ _ _ => rfl
 have i1 : ∀ x y z : Int, at_ [x, y, z] 1 = some y := fun _ _ _ => rfl
 have i2 : ∀ x y z : Int, at_ [x, y, z] 2 = some z := fun _ _ _ => rfl
 have s0 : ∀ x y z u : Int, setAt [x, y, z] 0 u = some [u, y, z] := fun _ _ _ _ => rfl
 have s2 : ∀ x y z u : Int, setAt [x, y, z] 2 u = some [x, y, u] := fun _ _ _ _ => rfl
 unfold m_l_pick pyLet
 rw [if_neg (by simp; omega)]
 simp only [i0, i1, i2, s0, s2, Option.bind_some]
 by_cases h : 0 < a
 · rw [if_pos (decide_eq_true h), mod_ok (by omega)]
   simp only [Option.bind_some]
   rw [fdiv_ok (by omega) hN]
   simp only [Option.bind_some, s0]
   exact ⟨_, _, rfl, Int.emod_nonneg _ (by omega), Int.emod_lt_of_pos _ (by omega), _, _, _, rfl, Int.ediv_nonneg ha (by omega)⟩
 · rw [if_neg (by simpa using h)]
   have m1 := Int.emod_nonneg (b + 7919 * (c + 1) + 13) (show (2147483647 : Int) ≠ 0 by decide)
   have m2 := Int.emod_lt_of_pos (b + 7919 * (c + 1) + 13) (show (0 : Int) < 2147483647 by decide)
   rw [mul_okL (by omega) (by omega)]
   simp only [Option.bind_some]
   have m3 := Int.emod_nonneg ((b + 7919 * (c + 1) + 13) % 2147483647 * ((b + 7919 * (c + 1) + 13) % 2147483647 + 48271)) (show (2147483629 : Int) ≠ 0 by decide)
   have m4 := Int.emod_lt_of_pos ((b + 7919 * (c + 1) + 13) % 2147483647 * ((b + 7919 * (c + 1) + 13) % 2147483647 + 48271)) (show (0 : Int) < 2147483629 by decide)
   rw [mul_okL (by omega) (by omega)]
   simp only [Option.bind_some]
   rw [mod_ok (by omega)]
   exact ⟨_, _, rfl, Int.emod_nonneg _ (by omega), Int.emod_lt_of_pos _ (by omega), _, _, _, rfl, ha⟩
theorem rng_length (lo hi : Int) : (rng lo hi).length = (hi - lo).toNat := by unfold rng; rw [List.length_map, List.length_range]
theorem mem_rng {lo hi x : Int} : x ∈ rng lo hi ↔ lo ≤ x ∧ x < hi := by
 unfold rng
 rw [List.mem_map]
 constructor
 · rintro ⟨k, hk, rfl⟩
   rw [List.mem_range] at hk
   omega
 · intro h
   exact ⟨(x - lo).toNat, List.mem_range.mpr (by omega), by omega⟩
theorem forN_cons {α σ : Type} (f : σ → α → Option σ) (s : σ) (x : α) (xs : List α) : forN f s (x :: xs) = (f s x).bind fun s' => forN f s' xs := rfl
theorem forR_step {α σ ρ : Type} {f : σ → α → Option (ρ ⊕ σ)} {s s' : σ} {x : α} {xs : List α} (h : f s x = some (.inr s')) : forR f s (x :: xs) = forR f s' xs := by
 show (f s x).bind _ = _
 rw [h]; rfl
theorem forR_all {α ρ : Type} {f : Unit → α → Option (ρ ⊕ Unit)} : ∀ {xs : List α}, (∀ x ∈ xs, f () x = some (.inr ())) → forR f () xs = some (.inr ())
 | [], _ => rfl
 | x :: xs, h => by
   rw [forR_step (h x (List.mem_cons_self ..))]
   exact forR_all fun y hy => h y (List.mem_cons_of_mem _ hy)
theorem sortI_self {xs : List Int} (h : xs.Pairwise (· ≤ ·)) : sortI xs = xs := List.mergeSort_of_pairwise (List.Pairwise.imp (fun z => decide_eq_true z) h)
theorem at_mem {α : Type} {xs : List α} {i : Int} (h0 : 0 ≤ i) (h1 : i < xs.length) : ∃ x, at_ xs i = some x ∧ x ∈ xs := by
 obtain ⟨x, e, g⟩ := at_some h0 h1
 exact ⟨x, e, List.mem_of_getElem? g⟩
theorem guard_ok {c : Bool} (h : c = true) : guardO c = some () := if_pos h
theorem rng_lt (lo hi : Int) : (rng lo hi).Pairwise (· < ·) := by
 unfold rng
 rw [List.pairwise_map]
 exact List.Pairwise.imp (fun h => by omega) List.pairwise_lt_range
theorem bd {α β : Type} {m : Option α} {f : α → Option β} {x : α} {r : Option β} (h : m = some x) (k : f x = r) : m.bind f = r := by rw [h]; exact k
theorem le_big {n : Nat} (h : n ≤ 100000) : n ≤ big := Nat.le_trans h (by decide)
theorem lt_big {n : Nat} (h : n ≤ 100000) : n < big := Nat.lt_of_le_of_lt h (by decide)
theorem ift {α : Type} {b : Bool} {x y r : Option α} (h : b = true) (k : x = r) : (if b = true then x else y) = r := by rw [if_pos h]; exact k
theorem iff' {α : Type} {b : Bool} {x y r : Option α} (h : b = false) (k : y = r) : (if b = true then x else y) = r := by rw [h, if_neg Bool.false_ne_true]; exact k
theorem forN_ind {α σ : Type} {f : σ → α → Option σ} (P : List α → σ → Prop) {xs : List α} {s0 : σ} (h0 : P [] s0) (h : ∀ pre x suf s, xs = pre ++ x :: suf → P pre s → ∃ s', f s x = some s' ∧ P (pre ++ [x]) s') : ∃ e, forN f s0 xs = some e ∧ P xs e := by
 have key : ∀ (suf pre : List α) (s : σ), xs = pre ++ suf → P pre s → ∃ e, forN f s suf = some e ∧ P xs e := by
   intro suf
   induction suf with
   | nil => intro pre s e p; rw [List.append_nil] at e; subst e; exact ⟨s, rfl, p⟩
   | cons x suf ih =>
     intro pre s e p
     obtain ⟨s', e1, p1⟩ := h pre x suf s e p
     obtain ⟨r, e2, p2⟩ := ih (pre ++ [x]) s' (by rw [e, List.append_assoc]; rfl) p1
     exact ⟨r, by rw [forN_cons, e1]; exact e2, p2⟩
 exact key xs [] s0 rfl h0
theorem forN_thru {α σ : Type} {f : σ → α → Option σ} (st : List α → σ) {xs : List α} {s0 : σ} (h0 : s0 = st []) (h : ∀ pre x suf, xs = pre ++ x :: suf → f (st pre) x = some (st (pre ++ [x]))) : forN f s0 xs = some (st xs) := by
 obtain ⟨e, h1, h2⟩ := forN_ind (f := f) (fun pre s => s = st pre) h0 (fun pre x suf s e p => ⟨_, by rw [p]; exact h pre x suf e, rfl⟩)
 rw [h1, h2]
theorem mem_mid {α : Type} {xs pre suf : List α} {x : α} (e : xs = pre ++ x :: suf) : x ∈ xs := by rw [e]; exact List.mem_append_right _ (List.mem_cons_self ..)
theorem setAt_ok {α : Type} {xs : List α} {i : Int} {x : α} (h0 : 0 ≤ i) (h1 : i < xs.length) : setAt xs i x = some (xs.set i.toNat x) := by
 unfold setAt ixN
 rw [if_pos h0, if_pos h1]; rfl
theorem at_get {α : Type} {xs : List α} {i : Int} {d : α} (h0 : 0 ≤ i) (h1 : i < xs.length) : at_ xs i = some (xs[i.toNat]?.getD d) := by
 obtain ⟨x, e, g⟩ := at_some h0 h1
 rw [e, g]; rfl
theorem lt_nodup {xs : List Int} (h : xs.Pairwise (· < ·)) : xs.Nodup := List.Pairwise.imp (fun z e => by omega) h
theorem lt_len {xs : List Int} {n : Nat} (hp : xs.Pairwise (· < ·)) (hb : ∀ x ∈ xs, 0 ≤ x ∧ x < (n : Int)) : xs.length ≤ n := by
 have h2 : ∀ (n : Nat) (l : List Int) (lo : Int), l.Pairwise (· < ·) → (∀ x ∈ l, lo ≤ x ∧ x < lo + n) → l.length ≤ n := by
   intro n
   induction n with
   | zero =>
     intro l lo _ hb
     cases l with
     | nil => exact Nat.le_refl _
     | cons x l => have := hb x (List.mem_cons_self ..); omega
   | succ n ih =>
     intro l lo hp hb
     cases l with
     | nil => exact Nat.zero_le _
     | cons x l =>
       have hx := hb x (List.mem_cons_self ..)
       have pc := List.pairwise_cons.mp hp
       have := ih l (lo + 1) pc.2 (fun y hy => by
         have h1 := pc.1 y hy
         have h2 := hb y (List.mem_cons_of_mem _ hy)
         omega)
       rw [List.length_cons]; omega
 exact h2 n xs 0 hp (fun x hx => by have := hb x hx; omega)
theorem rep_flat {α : Type} (x : α) : ∀ n : Nat, (List.replicate n [x]).flatten = List.replicate n x
 | 0 => rfl
 | n + 1 => by rw [List.replicate_succ, List.flatten_cons, rep_flat x n, List.replicate_succ]; rfl
theorem repL_one {α : Type} (x : α) {n : Nat} (h : n ≤ 100000) : repL [x] (n : Int) = some (List.replicate n x) := by
 unfold repL
 have h2 : [x].length * ((n : Int)).toNat ≤ big := by
   rw [List.length_singleton, Nat.one_mul, Int.toNat_natCast]; exact le_big h
 rw [if_pos ⟨by omega, by omega, h2⟩, Int.toNat_natCast, rep_flat]
theorem ltE {α β : Type} {e : α} {f : α → Option β} {r : Option β} (k : f e = r) : pyLet e f = r := k
theorem fmax (xs : List Int) : ∀ a : Int, (xs.foldl max a = a ∨ xs.foldl max a ∈ xs) ∧ a ≤ xs.foldl max a ∧ ∀ y ∈ xs, y ≤ xs.foldl max a := by
 induction xs with
 | nil => intro a; exact ⟨.inl rfl, Int.le_refl _, fun y h => nomatch h⟩
 | cons x xs ih =>
   intro a
   obtain ⟨h1, h2, h3⟩ := ih (max a x)
   show (xs.foldl max (max a x) = a ∨ _) ∧ a ≤ xs.foldl max (max a x) ∧ _
   refine ⟨?_, by omega, fun y hy => ?_⟩
   · rcases h1 with h1 | h1
     · by_cases hax : x ≤ a
       · exact .inl (by rw [h1]; omega)
       · refine .inr (List.mem_cons.mpr (.inl ?_)); show xs.foldl max (max a x) = x; rw [h1]; omega
     · exact .inr (List.mem_cons_of_mem _ h1)
   · show y ≤ xs.foldl max (max a x)
     rcases List.mem_cons.mp hy with rfl | hy
     · omega
     · exact h3 y hy
theorem lMax_is {xs : List Int} {m : Int} (h : lMax xs = some m) : 0 < xs.length ∧ m ∈ xs ∧ ∀ y ∈ xs, y ≤ m := by
 cases xs with
 | nil => cases h
 | cons x xs =>
   obtain rfl : (x :: xs).foldl max x = m := Option.some.inj h
   obtain ⟨h1, h2, h3⟩ := fmax (x :: xs) x
   refine ⟨Nat.succ_pos _, ?_, h3⟩
   rcases h1 with h1 | h1
   · rw [h1]; exact List.mem_cons_self ..
   · exact h1
theorem pw_and {α : Type} {r q : α → α → Prop} : ∀ {xs : List α}, xs.Pairwise r → xs.Pairwise q → xs.Pairwise (fun a b => r a b ∧ q a b)
 | [], _, _ => .nil
 | x :: xs, h, k => by
   have p1 := List.pairwise_cons.mp h
   have p2 := List.pairwise_cons.mp k
   exact List.pairwise_cons.mpr ⟨fun y hy => ⟨p1.1 y hy, p2.1 y hy⟩, pw_and p1.2 p2.2⟩
theorem sortI_mem {xs : List Int} {a : Int} : a ∈ sortI xs ↔ a ∈ xs := (List.mergeSort_perm xs _).mem_iff
theorem sortI_lt {xs : List Int} (h : xs.Nodup) : (sortI xs).Pairwise (· < ·) := by
 have h1 : (sortI xs).Pairwise (fun a b => decide (a ≤ b) = true) := List.pairwise_mergeSort (le := fun a b : Int => decide (a ≤ b)) (fun a b c h1 h2 => by simp at *; omega) (fun a b => by simp; omega) xs
 have h2 : (sortI xs).Nodup := (List.mergeSort_perm xs _).nodup_iff.mpr h
 exact List.Pairwise.imp (fun {a b} z => by
   have z1 := of_decide_eq_true z.1
   have z2 : a ≠ b := z.2
   omega) (pw_and h1 h2)
theorem map42 {α β : Type} {f : List β → α → Option (List β)} (g : α → β) {xs : List α} (hl : xs.length ≤ 1000) (hf : ∀ (s : List β) (x : α), x ∈ xs → s.length ≤ 1000 → f s x = some (s ++ [g x])) : forN f [] xs = some (xs.map g) :=
 forN_thru (fun pre => pre.map g) rfl fun pre x suf e => by
   rw [hf _ x (mem_mid e) (by have := congrArg List.length e; rw [List.length_append, List.length_cons] at this; rw [List.length_map]; omega), List.map_append]; rfl
theorem filt42 {α : Type} {f : List α → α → Option (List α)} (g : α → Bool) {xs : List α} (hl : xs.length ≤ 1000) (hf : ∀ (acc : List α) (x : α), x ∈ xs → acc.length < big → f acc x = some (if g x = true then acc ++ [x] else acc)) : forN f [] xs = some (xs.filter g) :=
 forN_thru (fun pre => pre.filter g) rfl fun pre x suf e => by
   have := List.length_filter_le g pre
   rw [hf _ x (mem_mid e) (lt_big (by have := congrArg List.length e; rw [List.length_append, List.length_cons] at this; omega)), List.filter_append, List.filter_cons, List.filter_nil]
   split
   · rfl
   · rw [List.append_nil]
theorem orR42 {ρ σ : Type} {s : σ} {k : σ → Option ρ} {r : Option ρ} (h : k s = r) : orR (.inr s) k = r := h
theorem ndlen42 {xs : List Int} {n : Nat} (h : xs.Nodup) (hb : ∀ x ∈ xs, 0 ≤ x ∧ x < (n : Int)) : xs.length ≤ n := by
 have := lt_len (sortI_lt h) (n := n) fun x hx => hb x (sortI_mem.mp hx)
 rw [(show (sortI xs).length = xs.length from (List.mergeSort_perm xs _).length_eq)] at this
 exact this
theorem sub42 : ∀ {l1 l2 : List Int}, l1.Nodup → (∀ x ∈ l1, x ∈ l2) → l1.length ≤ l2.length
 | [], _, _, _ => Nat.zero_le _
 | x :: l1, l2, h1, h2 => by
   obtain ⟨hx, h1⟩ := List.nodup_cons.mp h1
   have m := h2 x (List.mem_cons_self ..)
   have := sub42 (l2 := l2.erase x) h1 fun y hy => by
     have ne : y ≠ x := fun e => hx (e ▸ hy)
     exact (List.mem_erase_of_ne ne).mpr (h2 y (List.mem_cons_of_mem _ hy))
   rw [List.length_erase_of_mem m] at this
   have := List.length_pos_of_mem m
   rw [List.length_cons]; omega
theorem pick42 {X : List (Int × Int)} (p : Int × Int → Bool) : ((rng 0 (X.length : Int)).filter fun i => p (X[i.toNat]?.getD (0, 0))).map (fun i => X[i.toNat]?.getD (0, 0)) = X.filter p := by
 have e : (rng 0 (X.length : Int)).map (fun i => X[i.toNat]?.getD (0, 0)) = X := by
   refine List.ext_getElem? fun i => ?_
   unfold rng
   rw [List.getElem?_map, List.getElem?_map]
   by_cases k : i < X.length
   · rw [List.getElem?_range (by omega)]
     show some (X[((0 : Int) + (i : Int)).toNat]?.getD (0, 0)) = _
     rw [show ((0 : Int) + (i : Int)).toNat = i by omega, List.getElem?_eq_getElem k]; rfl
   · rw [List.getElem?_eq_none (by rw [List.length_range]; omega), List.getElem?_eq_none (by omega)]; rfl
 conv => rhs; rw [← e, List.filter_map]
 rfl
def ky (S : List (Int × Int)) (i : Int) : Int := (S[i.toNat]?.getD (0, 0)).1
def sp2 (S : List (Int × Int)) (i : Int) : Int × Int := S[i.toNat]?.getD (0, 0)
def Rb (S : List (Int × Int)) (a b : Int) : Prop := ky S a < ky S b ∨ (ky S a = ky S b ∧ a < b)
theorem Rb_asym {S : List (Int × Int)} {a b : Int} (h : Rb S a b) (k : Rb S b a) : False := by
 unfold Rb at h k; omega
theorem Rb_total {S : List (Int × Int)} {a b : Int} (h : a ≠ b) : Rb S a b ∨ Rb S b a := by
 unfold Rb; omega
theorem two_sub {a b : Int} : ∀ {xs : List Int}, xs.Pairwise (· < ·) → a ∈ xs → b ∈ xs → a < b → [a, b].Sublist xs
 | [], _, h, _, _ => nomatch h
 | x :: xs, pw, ha, hb, h => by
   obtain ⟨p1, p2⟩ := List.pairwise_cons.mp pw
   rcases List.mem_cons.mp ha with ea | ha2
   · rcases List.mem_cons.mp hb with eb | hb2
     · omega
     · subst ea
       exact List.Sublist.cons₂ _ (List.singleton_sublist.mpr hb2)
   · rcases List.mem_cons.mp hb with eb | hb2
     · have := p1 a ha2; omega
     · exact (two_sub p2 ha2 hb2 h).cons _
def keyS (S : List (Int × Int)) (a b : Int) : Bool := decide ((S.map (·.1))[a.toNat]?.getD 0 ≤ (S.map (·.1))[b.toNat]?.getD 0)
theorem keyS_eq {S : List (Int × Int)} {a b : Int} : keyS S a b = decide (ky S a ≤ ky S b) := by
 have e : ∀ i : Int, (S.map (·.1))[i.toNat]?.getD 0 = ky S i := fun i => by
   unfold ky
   rw [List.getElem?_map]
   cases S[i.toNat]? <;> rfl
 unfold keyS
 rw [e, e]
theorem sortIx_eq (S : List (Int × Int)) : sortIx (S.map (·.1)) = (rng 0 (S.length : Int)).mergeSort (keyS S) := by
 unfold sortIx keyS
 rw [List.length_map]
theorem ord_perm (S : List (Int × Int)) : (sortIx (S.map (·.1))).Perm (rng 0 (S.length : Int)) := by
 rw [sortIx_eq]; exact List.mergeSort_perm ..
theorem ord_mem {S : List (Int × Int)} {i : Int} : i ∈ sortIx (S.map (·.1)) ↔ 0 ≤ i ∧ i < (S.length : Int) := (ord_perm S).mem_iff.trans mem_rng
theorem ord_nd (S : List (Int × Int)) : (sortIx (S.map (·.1))).Nodup := (ord_perm S).nodup_iff.mpr (lt_nodup (rng_lt _ _))
theorem ord_pw (S : List (Int × Int)) : (sortIx (S.map (·.1))).Pairwise (Rb S) := by
 have nd := ord_nd S
 have hm := @ord_mem S
 have tr : ∀ a b c : Int, keyS S a b = true → keyS S b c = true → keyS S a c = true := fun a b c h1 h2 => by
   rw [keyS_eq, decide_eq_true_iff] at *; omega
 have tot : ∀ a b : Int, (keyS S a b || keyS S b a) = true := fun a b => by
   rw [keyS_eq, keyS_eq, Bool.or_eq_true, decide_eq_true_iff, decide_eq_true_iff]; omega
 have pw : (sortIx (S.map (·.1))).Pairwise fun a b => keyS S a b = true := by rw [sortIx_eq]; exact List.pairwise_mergeSort tr tot _
 have st : ∀ a b : Int, a ∈ rng 0 (S.length : Int) → b ∈ rng 0 (S.length : Int) → a < b → keyS S a b = true → [a, b].Sublist (sortIx (S.map (·.1))) := fun a b ha hb h k => by
   rw [sortIx_eq]; exact List.pair_sublist_mergeSort tr tot k (two_sub (rng_lt _ _) ha hb h)
 generalize sortIx (S.map (·.1)) = L at nd hm pw st
 rw [List.pairwise_iff_getElem] at pw ⊢
 intro i j hi hj hij
 have k1 := pw i j hi hj hij
 rw [keyS_eq, decide_eq_true_iff] at k1
 by_cases e : ky S L[i] = ky S L[j]
 · by_cases lt : L[i] < L[j]
   · exact .inr ⟨e, lt⟩
   · exfalso
     have ne : L[i] ≠ L[j] := fun z => by
       have := (List.getElem_inj nd).mp z
       omega
     have sub := st L[j] L[i] (mem_rng.mpr (hm.mp (List.getElem_mem hj))) (mem_rng.mpr (hm.mp (List.getElem_mem hi))) (by omega) (by rw [keyS_eq, decide_eq_true_iff]; omega)
     have pp : L.Pairwise fun u v => ¬ (u = L[j] ∧ v = L[i]) := List.pairwise_iff_getElem.mpr fun p q hp hq hpq ⟨e1, e2⟩ => by
       have a := (List.getElem_inj nd).mp e1
       have b := (List.getElem_inj nd).mp e2
       omega
     have := List.rel_of_pairwise_cons (pp.sublist sub) (List.mem_singleton.mpr rfl)
     exact this ⟨rfl, rfl⟩
 · exact .inl (by omega)
theorem least42 {p : Nat → Prop} (dp : ∀ k, p k ∨ ¬ p k) : ∀ m : Nat, (∃ k, k ≤ m ∧ ¬ p k ∧ ∀ j, j < k → p j) ∨ ∀ k, k ≤ m → p k
 | 0 => by
   rcases dp 0 with h | h
   · exact .inr fun k hk => by obtain rfl : k = 0 := by omega
                               exact h
   · exact .inl ⟨0, Nat.le_refl _, h, fun j hj => by omega⟩
 | m + 1 => by
   rcases least42 dp m with ⟨k, a, b, c⟩ | h
   · exact .inl ⟨k, by omega, b, c⟩
   · rcases dp (m + 1) with q | q
     · exact .inr fun k hk => by
         by_cases e : k = m + 1
         · subst e; exact q
         · exact h k (by omega)
     · exact .inl ⟨m + 1, Nat.le_refl _, q, fun j hj => h j (by omega)⟩
theorem mex42 (T : List Int) : ∃ k : Nat, k ≤ T.length ∧ (k : Int) ∉ T ∧ ∀ j : Nat, j < k → (j : Int) ∈ T := by
 rcases least42 (p := fun k => (k : Int) ∈ T) (fun k => Classical.em _) T.length with h | h
 · exact h
 · exfalso
   have := sub42 (l1 := rng 0 ((T.length + 1 : Nat) : Int)) (l2 := T) (lt_nodup (rng_lt _ _)) fun x hx => by
     obtain ⟨a, b⟩ := mem_rng.mp hx
     have := h x.toNat (by omega)
     rw [show (x.toNat : Int) = x by omega] at this; exact this
   rw [rng_length] at this
   omega
theorem while42 {T : List Int} {k : Nat} (hk : (k : Int) ∉ T) (hj : ∀ j : Nat, j < k → (j : Int) ∈ T) : ∀ (m a : Nat), a + m = k → ∀ F, m < F → whileN (m_berths_c3 T) m_berths_b3 F (a : Int) = some (k : Int)
 | 0, a, e, F + 1, _ => by
   obtain rfl : a = k := by omega
   show (m_berths_c3 T (a : Int)).bind _ = _
   unfold m_berths_c3
   refine bd rfl (if_neg ?_)
   rw [List.contains_eq_mem, decide_eq_false hk]; exact Bool.false_ne_true
 | m + 1, a, e, F + 1, h => by
   show (m_berths_c3 T (a : Int)).bind _ = _
   unfold m_berths_c3
   refine bd (x := true) (by rw [List.contains_eq_mem, decide_eq_true (hj a (by omega))]) ?_
   rw [if_pos rfl]
   refine bd (x := ((a + 1 : Nat) : Int)) (by unfold m_berths_b3; exact ltE (congrArg some (by omega))) (while42 hk hj m (a + 1) (by omega) F (by omega))
 | 0, _, _, 0, h => by omega
 | _ + 1, _, _, 0, h => by omega
def meetB (S : List (Int × Int)) (i j : Int) : Bool := decide ((sp2 S i).1 ≤ (sp2 S j).2) && decide ((sp2 S j).1 ≤ (sp2 S i).2)
theorem meet_symm {S : List (Int × Int)} {i j : Int} : meetB S i j = meetB S j i := by unfold meetB; rw [Bool.and_comm]
def nb (N : List Int) (i : Int) : Int := N[i.toNat]?.getD 0
def Gr (S : List (Int × Int)) (N : List Int) (i : Int) : Prop := 0 ≤ nb N i ∧ nb N i < (S.length : Int) ∧ (∀ j : Int, 0 ≤ j → j < (S.length : Int) → Rb S j i → meetB S i j = true → nb N j ≠ nb N i) ∧ ∀ v : Int, 0 ≤ v → v < nb N i → ∃ j : Int, (0 ≤ j ∧ j < (S.length : Int)) ∧ Rb S j i ∧ meetB S i j = true ∧ nb N j = v
theorem sp_at {S : List (Int × Int)} {i : Int} (h0 : 0 ≤ i) (h1 : i < (S.length : Int)) : at_ S i = some (sp2 S i) := at_get h0 h1
theorem nb_at {N : List Int} {i : Int} (h0 : 0 ≤ i) (h1 : i < (N.length : Int)) : at_ N i = some (nb N i) := at_get h0 h1
theorem nb_set {N : List Int} {i j v : Int} (h0 : 0 ≤ i) (h1 : i < (N.length : Int)) (j0 : 0 ≤ j) : nb (N.set i.toNat v) j = if j = i then v else nb N j := by
 unfold nb
 rw [List.getElem?_set]
 by_cases e : j = i
 · subst e; rw [if_pos rfl, if_pos rfl, if_pos (by omega)]; rfl
 · rw [if_neg (by omega), if_neg e]
theorem taken42 {S : List (Int × Int)} {N done : List Int} {x : Int} (hx : 0 ≤ x ∧ x < (S.length : Int)) (hN : N.length = S.length) (hd : ∀ j ∈ done, 0 ≤ j ∧ j < (S.length : Int)) (hl : done.length ≤ 1000) : ∃ T, forN (m_berths_b2 S (N, done) x) ([] : List Int) done = some T ∧ T.length ≤ done.length ∧ ∀ v, v ∈ T ↔ ∃ j ∈ done, meetB S x j = true ∧ nb N j = v := by
 obtain ⟨T, e, h1, h2⟩ := forN_ind (f := m_berths_b2 S (N, done) x) (xs := done) (s0 := ([] : List Int)) (fun pre T => T.length ≤ pre.length ∧ ∀ v, v ∈ T ↔ ∃ j ∈ pre, meetB S x j = true ∧ nb N j = v) ⟨Nat.le_refl _, fun v => ⟨fun h => (nomatch h), fun ⟨j, hj, _⟩ => (nomatch hj)⟩⟩ (fun pre j suf T e hT => by
   obtain ⟨j0, j1⟩ := hd j (mem_mid e)
   have hp : pre.length ≤ 1000 := by have := congrArg List.length e; rw [List.length_append] at this; omega
   have head : ∀ {r}, (if meetB S x j = true then ((at_ N j).bind fun x81 => (sadd T x81).bind fun x82 => some x82) else some T : Option (List Int)) = some r → m_berths_b2 S (N, done) x T j = some r := fun {r} h => by
     unfold m_berths_b2
     refine bd (sp_at hx.1 hx.2) (bd (sp_at j0 j1) (bd (x := meetB S x j) (by unfold m_overlap; rfl) h))
   by_cases k : meetB S x j = true
   · refine ⟨if T.contains (nb N j) = true then T else T ++ [nb N j], head ?_, ?_, fun v => ?_⟩
     · rw [if_pos k]
       refine bd (nb_at j0 (by omega)) (bd (x := if T.contains (nb N j) = true then T else T ++ [nb N j]) (by unfold sadd; rw [if_pos (by omega)]) rfl)
     · split
       · rw [List.length_append]; omega
       · rw [List.length_append, List.length_append]; simp; omega
     · have : v ∈ (if T.contains (nb N j) = true then T else T ++ [nb N j]) ↔ v ∈ T ∨ v = nb N j := by
         by_cases c : nb N j ∈ T
         · rw [List.contains_eq_mem, decide_eq_true c, if_pos rfl]
           exact ⟨.inl, fun h => h.elim id fun h => h ▸ c⟩
         · rw [List.contains_eq_mem, decide_eq_false c, if_neg Bool.false_ne_true, List.mem_append, List.mem_singleton]
       rw [this, hT.2]
       constructor
       · rintro (⟨j', a, b⟩ | rfl)
         · exact ⟨j', List.mem_append_left _ a, b⟩
         · exact ⟨j, List.mem_append_right _ (List.mem_singleton.mpr rfl), k, rfl⟩
       · rintro ⟨j', a, b, c⟩
         rcases List.mem_append.mp a with a | a
         · exact .inl ⟨j', a, b, c⟩
         · rw [List.mem_singleton.mp a] at c; exact .inr c.symm
   · refine ⟨T, head (by rw [if_neg k]), by rw [List.length_append]; omega, fun v => ?_⟩
     rw [hT.2]
     constructor
     · rintro ⟨j', a, b⟩
       exact ⟨j', List.mem_append_left _ a, b⟩
     · rintro ⟨j', a, b, c⟩
       rcases List.mem_append.mp a with a | a
       · exact ⟨j', a, b, c⟩
       · rw [List.mem_singleton.mp a] at b; exact absurd b k)
 exact ⟨T, e, h1, h2⟩
theorem run42 {S : List (Int × Int)} (hS : S.length ≤ 900) : ∃ N done, forN (m_berths_b1 S) (List.replicate S.length (0 : Int), ([] : List Int)) (sortIx (S.map (·.1))) = some (N, done) ∧ N.length = S.length ∧ done.length = S.length ∧ ∀ i : Int, 0 ≤ i → i < (S.length : Int) → Gr S N i := by
 have pw := ord_pw S
 have hm := @ord_mem S
 have hlen : (sortIx (S.map (·.1))).length = S.length := by rw [(ord_perm S).length_eq, rng_length]; omega
 generalize sortIx (S.map (·.1)) = L at pw hm hlen
 obtain ⟨⟨N, done⟩, e, h1, h2, h3⟩ := forN_ind (f := m_berths_b1 S) (xs := L) (s0 := (List.replicate S.length (0 : Int), ([] : List Int))) (fun pre t => t.1.length = S.length ∧ t.2 = pre ∧ ∀ i ∈ pre, 0 ≤ nb t.1 i ∧ nb t.1 i ≤ (pre.length : Int) - 1 ∧ (∀ j ∈ pre, Rb S j i → meetB S i j = true → nb t.1 j ≠ nb t.1 i) ∧ ∀ v : Int, 0 ≤ v → v < nb t.1 i → ∃ j ∈ pre, Rb S j i ∧ meetB S i j = true ∧ nb t.1 j = v) ⟨List.length_replicate, rfl, fun i h => (nomatch h)⟩ (fun pre x suf t e ht => by
   obtain ⟨N, done⟩ := t
   obtain ⟨t1, t2, t3⟩ := ht
   have t1 : N.length = S.length := t1
   obtain rfl : done = pre := t2
   have hx := hm.mp (mem_mid e)
   have hd : ∀ j ∈ done, 0 ≤ j ∧ j < (S.length : Int) := fun j hj => hm.mp (by rw [e]; exact List.mem_append_left _ hj)
   have hdl : done.length < S.length := by have := congrArg List.length e; rw [List.length_append, List.length_cons] at this; omega
   rw [e] at pw
   have before : ∀ j ∈ done, Rb S j x := fun j hj => (List.pairwise_append.mp pw).2.2 j hj x (List.mem_cons_self ..)
   have nx : x ∉ done := fun m => Rb_asym (before x m) (before x m)
   obtain ⟨T, e1, tl, tm⟩ := taken42 hx t1 hd (by omega)
   obtain ⟨k, k1, k2, k3⟩ := mex42 T
   have nst : ∀ j : Int, 0 ≤ j → nb (N.set x.toNat (k : Int)) j = if j = x then (k : Int) else nb N j := fun j j0 => nb_set hx.1 (by omega) j0
   have nold : ∀ j ∈ done, nb (N.set x.toNat (k : Int)) j = nb N j := fun j hj => by rw [nst j (hd j hj).1, if_neg fun z : j = x => nx (z ▸ hj)]
   refine ⟨(N.set x.toNat (k : Int), done ++ [x]), ?_, by rw [List.length_set]; exact t1, rfl, fun i hi => ?_⟩
   · unfold m_berths_b1
     exact bd e1 (ltE (bd (while42 k2 k3 k 0 (by omega) 1000 (by omega)) (bd (setAt_ok hx.1 (by show x < (N.length : Int); omega)) (bd (app_ok (lt_big (by show done.length ≤ 100000; omega))) rfl))))
   · show 0 ≤ nb (N.set x.toNat (k : Int)) i ∧ nb (N.set x.toNat (k : Int)) i ≤ ((done ++ [x]).length : Int) - 1 ∧ (∀ j ∈ done ++ [x], Rb S j i → meetB S i j = true → nb (N.set x.toNat (k : Int)) j ≠ nb (N.set x.toNat (k : Int)) i) ∧ ∀ v : Int, 0 ≤ v → v < nb (N.set x.toNat (k : Int)) i → ∃ j ∈ done ++ [x], Rb S j i ∧ meetB S i j = true ∧ nb (N.set x.toNat (k : Int)) j = v
     rw [List.length_append, List.length_singleton]
     rcases List.mem_append.mp hi with hi | hi
     · obtain ⟨a1, a2, a3, a4⟩ := t3 i hi
       have a1 : 0 ≤ nb N i := a1
       have a2 : nb N i ≤ (done.length : Int) - 1 := a2
       rw [nold i hi]
       refine ⟨a1, by omega, fun j hj r m => ?_, fun v v0 v1 => ?_⟩
       · rcases List.mem_append.mp hj with hj | hj
         · rw [nold j hj]; exact a3 j hj r m
         · rw [List.mem_singleton.mp hj] at r
           exact (Rb_asym r (before i hi)).elim
       · obtain ⟨j, hj, r, m, ev⟩ := a4 v v0 v1
         exact ⟨j, List.mem_append_left _ hj, r, m, by rw [nold j hj]; exact ev⟩
     · obtain rfl := List.mem_singleton.mp hi
       rw [nst i hx.1, if_pos rfl]
       refine ⟨by omega, by omega, fun j hj r m => ?_, fun v v0 v1 => ?_⟩
       · rcases List.mem_append.mp hj with hj | hj
         · rw [nold j hj]
           intro z
           exact k2 ((tm _).mpr ⟨j, hj, m, z⟩)
         · rw [List.mem_singleton.mp hj] at r
           exact (Rb_asym r r).elim
       · have hv := k3 v.toNat (by omega)
         rw [show (v.toNat : Int) = v by omega] at hv
         obtain ⟨j, hj, m, ev⟩ := (tm v).mp hv
         exact ⟨j, List.mem_append_left _ hj, before j hj, m, by rw [nold j hj]; exact ev⟩)
 have h1 : N.length = S.length := h1
 obtain rfl : done = L := h2
 refine ⟨N, done, e, h1, hlen, fun i i0 i1 => ?_⟩
 obtain ⟨a1, a2, a3, a4⟩ := h3 i (hm.mpr ⟨i0, i1⟩)
 have a2 : nb N i ≤ (done.length : Int) - 1 := a2
 exact ⟨a1, by omega, fun j j0 j1 r m => a3 j (hm.mpr ⟨j0, j1⟩) r m, fun v v0 v1 => by
   obtain ⟨j, hj, r⟩ := a4 v v0 v1
   exact ⟨j, hm.mp hj, r⟩⟩
def inB (h : Int) (s : Int × Int) : Bool := decide (s.1 ≤ h) && decide (h ≤ s.2)
def cntH (S : List (Int × Int)) (h : Int) : Int := ((S.filter (inB h)).length : Int)
def Cs42 (S : List (Int × Int)) (h : Int) : List Int := (rng 0 (S.length : Int)).filter fun i => inB h (sp2 S i)
theorem cnt_C (S : List (Int × Int)) (h : Int) : cntH S h = ((Cs42 S h).length : Int) := by
 unfold cntH Cs42
 rw [← pick42 (inB h), List.length_map]; rfl
theorem C_mem {S : List (Int × Int)} {h i : Int} : i ∈ Cs42 S h ↔ (0 ≤ i ∧ i < (S.length : Int)) ∧ (sp2 S i).1 ≤ h ∧ h ≤ (sp2 S i).2 := by
 unfold Cs42 inB
 rw [List.mem_filter, mem_rng, Bool.and_eq_true, decide_eq_true_iff, decide_eq_true_iff]
theorem ky_sp (S : List (Int × Int)) (i : Int) : ky S i = (sp2 S i).1 := rfl
section
variable {S : List (Int × Int)} {N : List Int} (hS : S.length ≤ 900) (hv : ∀ s ∈ S, s.1 ≤ s.2) (hN : N.length = S.length) (G : ∀ i : Int, 0 ≤ i → i < (S.length : Int) → Gr S N i) {m : Int} (hm : lMax N = some m)
include hS hv hN G hm
theorem mnn : 0 ≤ m := by
 obtain ⟨h1, h2, h3⟩ := lMax_is hm
 obtain ⟨j, hj⟩ := List.getElem?_of_mem h2
 have jl := (List.getElem?_eq_some_iff.mp hj).1
 have := (G (j : Int) (by omega) (by omega)).1
 unfold nb at this
 rw [Int.toNat_natCast, hj] at this
 exact this
theorem upper42 (h : Int) : cntH S h ≤ m + 1 := by
 obtain ⟨_, _, h3⟩ := lMax_is hm
 have mn := mnn hS hv hN G hm
 rw [cnt_C]
 have nd : ((Cs42 S h).map (nb N)).Nodup := by
   refine List.pairwise_map.mpr ?_
   have pw : (Cs42 S h).Pairwise (· < ·) := List.Pairwise.filter _ (rng_lt _ _)
   refine List.Pairwise.imp_of_mem (fun {a b} ha hb lt => ?_) pw
   obtain ⟨⟨a0, a1⟩, a2, a3⟩ := C_mem.mp ha
   obtain ⟨⟨b0, b1⟩, b2, b3⟩ := C_mem.mp hb
   have mt : meetB S a b = true := by
     unfold meetB
     rw [Bool.and_eq_true, decide_eq_true_iff, decide_eq_true_iff]
     exact ⟨by omega, by omega⟩
   rcases Rb_total (S := S) (a := a) (b := b) (by omega) with r | r
   · exact (G b b0 b1).2.2.1 a a0 a1 r (by rw [meet_symm]; exact mt)
   · exact fun z => (G a a0 a1).2.2.1 b b0 b1 r mt z.symm
 have := ndlen42 (n := (m + 1).toNat) nd fun x hx => by
   obtain ⟨i, hi, rfl⟩ := List.mem_map.mp hx
   obtain ⟨⟨i0, i1⟩, _⟩ := C_mem.mp hi
   have g := (G i i0 i1).1
   have e : N[i.toNat]? = some N[i.toNat] := List.getElem?_eq_getElem (by omega)
   have le := h3 _ (List.getElem_mem (show i.toNat < N.length by omega))
   have en : nb N i = N[i.toNat] := by unfold nb; rw [e]; rfl
   omega
 rw [List.length_map] at this
 omega
theorem lower42 : ∃ s ∈ S, cntH S s.1 = m + 1 := by
 obtain ⟨h1, h2, h3⟩ := lMax_is hm
 have mn := mnn hS hv hN G hm
 obtain ⟨j, hj⟩ := List.getElem?_of_mem h2
 have jl := (List.getElem?_eq_some_iff.mp hj).1
 have en : nb N (j : Int) = m := by unfold nb; rw [Int.toNat_natCast, hj]; rfl
 have es : S[j]? = some S[j] := List.getElem?_eq_getElem (by omega)
 have ep : sp2 S (j : Int) = S[j] := by unfold sp2; rw [Int.toNat_natCast, es]; rfl
 have sm := List.getElem_mem (show j < S.length by omega)
 refine ⟨S[j], sm, ?_⟩
 have up := upper42 hS hv hN G hm (S[j]).1
 have val := hv _ sm
 have := sub42 (l1 := rng 0 (m + 1)) (l2 := (Cs42 S (S[j]).1).map (nb N)) (lt_nodup (rng_lt _ _)) fun v hv2 => by
   obtain ⟨v0, v1⟩ := mem_rng.mp hv2
   by_cases e : v = m
   · exact List.mem_map.mpr ⟨(j : Int), C_mem.mpr ⟨⟨by omega, by omega⟩, by rw [ep]; omega, by rw [ep]; exact val⟩, by rw [en, e]⟩
   · obtain ⟨i, ⟨i0, i1⟩, r, mt, ev⟩ := (G (j : Int) (by omega) (by omega)).2.2.2 v v0 (by omega)
     refine List.mem_map.mpr ⟨i, C_mem.mpr ⟨⟨i0, i1⟩, ?_, ?_⟩, ev⟩
     · unfold Rb at r
       rw [ky_sp, ky_sp, ep] at r
       omega
     · unfold meetB at mt
       rw [Bool.and_eq_true, decide_eq_true_iff, decide_eq_true_iff, ep] at mt
       exact mt.1
 rw [rng_length, List.length_map] at this
 rw [cnt_C] at up ⊢
 omega
end
theorem first42 {f : Unit → Int → Option (Option Int ⊕ Unit)} (c : Int → Bool) (hf : ∀ h, f () h = if c h = true then some (.inl (some h)) else some (.inr ())) : ∀ {L : List Int}, (∃ h ∈ L, c h = true) → ∃ pre h suf, L = pre ++ h :: suf ∧ c h = true ∧ (∀ x ∈ pre, c x = false) ∧ forR f () L = some (.inl (some h))
 | [], ⟨_, h, _⟩ => nomatch h
 | x :: L, ⟨h, hm, hc⟩ => by
   by_cases k : c x = true
   · refine ⟨[], x, L, rfl, k, fun y hy => (nomatch hy), ?_⟩
     show (f () x).bind _ = _
     rw [hf, if_pos k]; rfl
   · have hm2 : h ∈ L := by
       rcases List.mem_cons.mp hm with e | e
       · subst e; exact absurd hc k
       · exact e
     obtain ⟨pre, h2, suf, e, a, b, d⟩ := first42 c hf ⟨h, hm2, hc⟩
     refine ⟨x :: pre, h2, suf, by rw [e]; rfl, a, fun y hy => ?_, ?_⟩
     · rcases List.mem_cons.mp hy with rfl | hy
       · exact Bool.eq_false_iff.mpr k
       · exact b y hy
     · show (f () x).bind _ = _
       rw [hf, if_neg k]; exact d
theorem many42 {S : List (Int × Int)} (hS : S.length ≤ 900) (h : Int) : m_l_many S h = some (cntH S h) := by
 unfold m_l_many
 exact bd (filt42 (inB h) (by omega) fun acc x _ ha => by
   unfold m_l_many_b1
   by_cases k : inB h x = true
   · rw [if_pos k]; exact ift k (bd (app_ok ha) rfl)
   · rw [if_neg k]; exact iff' (by rw [Bool.eq_false_iff]; exact k) rfl) rfl
theorem busy42 {S : List (Int × Int)} (hS : S.length ≤ 900) {c : Int} (ex : ∃ s ∈ S, cntH S s.1 = c) : ∃ h, m_busy_hour S c = some (some h) ∧ cntH S h = c ∧ h ∈ S.map (·.1) ∧ ∀ s ∈ S, cntH S s.1 = c → h ≤ s.1 := by
 have e1 : forN m_busy_hour_b1 ([] : List Int) S = some (S.map (·.1)) := map42 (fun s : Int × Int => s.1) (by omega) fun acc x _ ha => by
   unfold m_busy_hour_b1; exact bd (app_ok (lt_big (by omega))) rfl
 have st : ∀ h, m_busy_hour_b2 S c () h = if decide (cntH S h = c) = true then some (.inl (some h)) else some (.inr ()) := fun h => by
   unfold m_busy_hour_b2
   refine bd (x := (S.filter (inB h)).map (·.1)) ?_ ?_
   · refine forN_thru (fun pre => (pre.filter (inB h)).map (·.1)) rfl fun pre x suf e => ?_
     have pl : pre.length ≤ 900 := by have := congrArg List.length e; rw [List.length_append] at this; omega
     have fl := List.length_filter_le (inB h) pre
     unfold m_busy_hour_b3
     rw [List.filter_append, List.filter_cons, List.filter_nil, List.map_append]
     by_cases k : inB h x = true
     · rw [if_pos k]
       exact ift k (bd (app_ok (lt_big (by rw [List.length_map]; omega))) rfl)
     · rw [if_neg k, List.map_nil, List.append_nil]
       exact iff' (by rw [Bool.eq_false_iff]; exact k) rfl
   · rw [List.length_map]; rfl
 obtain ⟨s, sm, sc⟩ := ex
 obtain ⟨pre, h, suf, e, a, b, d⟩ := first42 (f := m_busy_hour_b2 S c) (fun h => decide (cntH S h = c)) st (L := sortI (S.map (·.1))) ⟨s.1, sortI_mem.mpr (List.mem_map.mpr ⟨s, sm, rfl⟩), decide_eq_true sc⟩
 refine ⟨h, by unfold m_busy_hour; exact bd e1 (bd d rfl), of_decide_eq_true a, sortI_mem.mp (by rw [e]; exact List.mem_append_right _ (List.mem_cons_self ..)), fun s2 h2 c2 => ?_⟩
 have pw : (sortI (S.map (·.1))).Pairwise (fun a b => decide (a ≤ b) = true) := List.pairwise_mergeSort (le := fun a b : Int => decide (a ≤ b)) (fun a b c h1 h2 => by simp at *; omega) (fun a b => by simp; omega) _
 have mem : s2.1 ∈ sortI (S.map (·.1)) := sortI_mem.mpr (List.mem_map.mpr ⟨s2, h2, rfl⟩)
 rw [e] at mem pw
 rcases List.mem_append.mp mem with q | q
 · have := b _ q
   rw [decide_eq_true c2] at this; cases this
 · rcases List.mem_cons.mp q with q | q
   · omega
   · exact of_decide_eq_true (List.rel_of_pairwise_cons (List.pairwise_append.mp pw).2.1 q)
theorem lt_Rb {S : List (Int × Int)} {j x : Int} : ltPairB ((sp2 S j).1, j) ((sp2 S x).1, x) = true ↔ Rb S j x := by
 unfold ltPairB Rb
 rw [ky_sp, ky_sp]
 dsimp only
 split
 · rw [decide_eq_true_iff]; omega
 · rw [decide_eq_true_iff]; omega
theorem earlier42 {S : List (Int × Int)} (hS : S.length ≤ 900) {x : Int} (x0 : 0 ≤ x) (x1 : x < (S.length : Int)) : ∃ E, m_l_earlier S x = some E ∧ E.length ≤ 900 ∧ ∀ j, j ∈ E ↔ (0 ≤ j ∧ j < (S.length : Int)) ∧ Rb S j x ∧ meetB S x j = true := by
 refine ⟨((rng 0 (S.length : Int)).filter fun j => ltPairB ((sp2 S j).1, j) ((sp2 S x).1, x)).filter fun j => meetB S j x, ?_, ?_, fun j => ?_⟩
 · have fl := List.length_filter_le (fun j : Int => ltPairB ((sp2 S j).1, j) ((sp2 S x).1, x)) (rng 0 (S.length : Int))
   rw [rng_length] at fl
   unfold m_l_earlier
   refine bd (rngO_ok (by decide) (by decide) (by omega) (by omega)) (bd (filt42 (fun j => ltPairB ((sp2 S j).1, j) ((sp2 S x).1, x)) (by rw [rng_length]; omega) fun acc j hj ha => ?_) (bd (filt42 (fun j => meetB S j x) (by omega) fun acc j hj ha => ?_) rfl))
   · obtain ⟨j0, j1⟩ := mem_rng.mp hj
     unfold m_l_earlier_b1
     refine bd (sp_at j0 j1) (bd (sp_at x0 x1) ?_)
     by_cases k : ltPairB ((sp2 S j).1, j) ((sp2 S x).1, x) = true
     · rw [if_pos k, if_pos k]; exact bd (app_ok ha) rfl
     · rw [if_neg k, if_neg k]
   · obtain ⟨j0, j1⟩ := mem_rng.mp (List.mem_filter.mp hj).1
     unfold m_l_earlier_b2
     refine bd (sp_at j0 j1) (bd (sp_at x0 x1) (bd (x := meetB S j x) (by unfold m_l_meet; rfl) ?_))
     by_cases k : meetB S j x = true
     · rw [if_pos k, if_pos k]; exact bd (app_ok ha) rfl
     · rw [if_neg k, if_neg k]
 · exact Nat.le_trans (List.length_filter_le _ _) (Nat.le_trans (List.length_filter_le _ _) (by rw [rng_length]; omega))
 · rw [List.mem_filter, List.mem_filter, mem_rng, lt_Rb, meet_symm, and_assoc]
theorem numbers42 {S : List (Int × Int)} {N : List Int} (hS : S.length ≤ 900) (hN : N.length = S.length) (G : ∀ i : Int, 0 ≤ i → i < (S.length : Int) → Gr S N i) : m_l_numbers_hold S N = some true := by
 unfold m_l_numbers_hold
 refine iff' (by rw [hN, decide_eq_true rfl]; rfl) (bd (rngO_ok (by decide) (by decide) (by omega) (by omega)) (bd (forR_all fun x hx => ?_) (orR42 rfl)))
 obtain ⟨x0, x1⟩ := mem_rng.mp hx
 obtain ⟨g1, g2, g3, g4⟩ := G x x0 x1
 obtain ⟨E, e1, el, em⟩ := earlier42 hS x0 x1
 have ha : at_ N x = some (nb N x) := nb_at x0 (by omega)
 have e2 : forN (m_l_numbers_hold_b2 N) ([] : List Int) E = some (E.map (nb N)) := map42 (nb N) (by omega) fun acc j hj hb => by
   obtain ⟨⟨j0, j1⟩, _⟩ := (em j).mp hj
   unfold m_l_numbers_hold_b2
   exact bd (nb_at j0 (by omega)) (bd (app_ok (lt_big (by omega))) rfl)
 have nin : nb N x ∉ E.map (nb N) := fun h => by
   obtain ⟨j, hj, ej⟩ := List.mem_map.mp h
   obtain ⟨⟨j0, j1⟩, r, mt⟩ := (em j).mp hj
   exact g3 j j0 j1 r mt ej
 have all : ∀ v : Int, 0 ≤ v → v < nb N x → v ∈ E.map (nb N) := fun v v0 v1 => by
   obtain ⟨j, jr, r, mt, ev⟩ := g4 v v0 v1
   exact List.mem_map.mpr ⟨j, (em j).mpr ⟨jr, r, mt⟩, ev⟩
 generalize E.map (nb N) = T at e2 nin all
 unfold m_l_numbers_hold_b1
 refine bd (x := false) (bd ha (bd (x := true) rfl (iff' rfl (bd ha (iff' (decide_eq_false (by omega)) (bd ha (congrArg some (decide_eq_false (by omega))))))))) (iff' rfl (bd e1 (bd e2 (bd (x := false) (bd ha (iff' (by rw [List.contains_eq_mem, decide_eq_false nin]) (bd ha (bd (rngO_ok (by decide) (by decide) (by omega) (by omega)) (bd (x := []) ?_ rfl))))) (iff' rfl rfl)))))
 refine forN_thru (fun _ => []) rfl fun pre v suf e => ?_
 obtain ⟨v0, v1⟩ := mem_rng.mp (mem_mid e)
 unfold m_l_numbers_hold_b3
 exact iff' (by rw [List.contains_eq_mem, decide_eq_true (all v v0 v1)]; rfl) rfl
theorem berths42 {S : List (Int × Int)} (hS : S.length ≤ 100) (hv : ∀ s ∈ S, s.1 ≤ s.2) : ∃ t : Int × List Int × Option Int, m_berths S = some t ∧ m_l_berths_hold t S = some true ∧ t.2.1.length ≤ 100 := by
 obtain ⟨N, done, e1, hN, hd, G⟩ := run42 (S := S) (by omega)
 have er := repL_one (0 : Int) (n := S.length) (by omega)
 have nh := numbers42 (by omega) hN G
 by_cases z : S = []
 · subst z
   obtain rfl : N = [] := List.eq_nil_of_length_eq_zero (by rw [hN]; rfl)
   obtain rfl : done = [] := List.eq_nil_of_length_eq_zero (by rw [hd]; rfl)
   refine ⟨(0, [], none), ?_, ?_, by decide⟩
   · unfold m_berths
     exact bd er (bd (guard_ok (by decide)) (bd e1 (bd (x := 0) rfl (bd (x := none) (by unfold m_busy_hour; exact bd (x := []) rfl (by rw [sortI_self .nil]; rfl)) rfl))))
   · unfold m_l_berths_hold
     exact bd (x := false) rfl (iff' rfl (bd nh (iff' rfl rfl)))
 · have sl : 0 < S.length := by cases S with | nil => exact absurd rfl z | cons x xs => rw [List.length_cons]; omega
   obtain ⟨m, hm⟩ : ∃ m, lMax N = some m := by
     cases N with
     | nil => rw [List.length_nil] at hN; omega
     | cons x xs => exact ⟨_, rfl⟩
   obtain ⟨h, b1, b2, b3, b4⟩ := busy42 (S := S) (by omega) (lower42 (by omega) hv hN G hm)
   have up := upper42 (S := S) (by omega) hv hN G hm
   refine ⟨(m + 1, N, some h), ?_, ?_, by show N.length ≤ 100; omega⟩
   · unfold m_berths
     refine bd er (bd (guard_ok (decide_eq_true (by omega))) (bd e1 (bd (x := m + 1) ?_ (bd b1 rfl))))
     refine ift ?_ (bd hm rfl)
     cases done with
     | nil => rw [List.length_nil] at hd; omega
     | cons x xs => rfl
   · unfold m_l_berths_hold
     refine bd (x := false) rfl (iff' rfl (bd nh (iff' rfl (iff' (decide_eq_false (by omega)) ?_))))
     refine bd (x := false) (bd hm (iff' (by rw [decide_eq_true rfl]; rfl) (bd (x := true) rfl (iff' rfl (bd rfl (bd (many42 (by omega) h) (by rw [b2, decide_eq_true rfl]; rfl))))))) (iff' rfl ?_)
     refine bd (forR_all fun s hs => ?_) (orR42 (bd (map42 (fun s : Int × Int => s.1) (by omega) fun acc x _ ha => by unfold m_l_berths_hold_b2; exact bd (app_ok (lt_big (by omega))) rfl) (bd rfl (congrArg some (by rw [List.contains_eq_mem]; exact decide_eq_true b3)))))
     unfold m_l_berths_hold_b1
     refine bd (many42 (by omega) s.1) (bd (x := false) (iff' (decide_eq_false (by have := up s.1; show ¬ m + 1 < cntH S s.1; omega)) (bd (x := false) ?_ rfl)) (iff' rfl rfl))
     by_cases k : cntH S s.1 = m + 1
     · exact ift (decide_eq_true k) (bd rfl (congrArg some (decide_eq_false (by have := b4 s hs k; omega))))
     · exact iff' (decide_eq_false k) rfl
theorem spans42 {h : List Int} (hh : Hd h) : ∃ S h', m_l_spans h = some (S, h') ∧ S.length ≤ 100 ∧ (∀ s ∈ S, s.1 ≤ s.2) ∧ Hd h' := by
 obtain ⟨a, h1, e1, a0, a1, hh1⟩ := pick_ok hh (n := 8) (by decide) (by decide)
 obtain ⟨x, e2, m2⟩ := at_mem (xs := [(11 : Int), (11 : Int), (11 : Int), (11 : Int), (5 : Int), (11 : Int), (11 : Int), (31 : Int)]) a0 a1
 have hx : 1 ≤ x ∧ x ≤ 31 := by simp at m2; omega
 obtain ⟨n, h2, e3, n0, n1, hh2⟩ := pick_ok hh1 (n := x) (by omega) (by omega)
 obtain ⟨b, h3, e4, b0, b1, hh3⟩ := pick_ok hh2 (n := 3) (by decide) (by decide)
 obtain ⟨y, e5, m5⟩ := at_mem (xs := [(9 : Int), (25 : Int), (97 : Int)]) b0 b1
 have hy : 1 ≤ y ∧ y ≤ 97 := by simp at m5; omega
 obtain ⟨⟨h4, S⟩, e6, k1, k2, k3⟩ := forN_ind (f := m_l_spans_b1 y) (xs := rng 0 n) (s0 := (h3, ([] : List (Int × Int)))) (fun pre t => Hd t.1 ∧ t.2.length = pre.length ∧ ∀ s ∈ t.2, s.1 ≤ s.2) ⟨hh3, rfl, fun s hs => (nomatch hs)⟩ (fun pre k suf t e ht => by
   obtain ⟨t1, t2, t3⟩ := ht
   have hp : pre.length ≤ 31 := by have := congrArg List.length e; rw [List.length_append, rng_length] at this; omega
   obtain ⟨f, g1, q1, f0, f1, hg1⟩ := pick_ok t1 (n := y) (by omega) (by omega)
   obtain ⟨c, g2, q2, c0, c1, hg2⟩ := pick_ok hg1 (n := 2) (by decide) (by decide)
   obtain ⟨w, q3, m3⟩ := at_mem (xs := [(3 : Int), (12 : Int)]) c0 c1
   have hw : 1 ≤ w ∧ w ≤ 12 := by simp at m3; omega
   obtain ⟨d, g3, q4, d0, d1, hg3⟩ := pick_ok hg2 (n := w) (by omega) (by omega)
   refine ⟨(g3, t.2 ++ [(f, f + d)]), ?_, hg3, by rw [List.length_append, List.length_append, t2]; rfl, fun s hs => ?_⟩
   · unfold m_l_spans_b1
     exact bd q1 (bd q2 (bd q3 (bd q4 (bd (app_ok (lt_big (by omega))) rfl))))
   · rcases List.mem_append.mp hs with hs | hs
     · exact t3 s hs
     · rw [List.mem_singleton.mp hs]; show f ≤ f + d; omega)
 refine ⟨S, h4, ?_, ?_, k3, k1⟩
 · unfold m_l_spans
   exact bd e1 (bd e2 (bd e3 (bd e4 (bd e5 (bd (rngO_ok (by decide) (by decide) (by omega) (by omega)) (bd e6 rfl))))))
 · have k2 : S.length = (rng 0 n).length := k2
   rw [k2, rng_length]; omega
theorem law_true (l : List Int) (_ : l.length ≤ 63) : m_law l = some true := by
 obtain ⟨h0, e0, hh0⟩ := hand_ok l 0 (by decide)
 obtain ⟨S, h1, e1, l1, v1, _⟩ := spans42 hh0
 obtain ⟨h2, e2, hh2⟩ := hand_ok l 1 (by decide)
 obtain ⟨T, h3, e3, l2, v2, _⟩ := spans42 hh2
 unfold m_law
 have one : ∀ U : List (Int × Int), U.length ≤ 100 → (∀ s ∈ U, s.1 ≤ s.2) → m_law_b1 () U = some (.inr ()) := fun U lU vU => by
   obtain ⟨t, f1, f2, f3⟩ := berths42 lU vU
   unfold m_law_b1
   exact bd f1 (bd (x := false) (bd f2 (iff' rfl (by rw [decide_eq_true rfl]; rfl))) (iff' rfl (bd (app_ok (lt_big (by omega))) rfl)))
 refine bd e0 (bd e1 (bd e2 (bd e3 (bd (forR_all fun U hU => ?_) (orR42 rfl)))))
 rcases List.mem_cons.mp hU with rfl | hU
 · exact one _ l1 v1
 · rcases List.mem_cons.mp hU with rfl | hU
   · exact one _ l2 v2
   · rw [List.mem_singleton.mp hU]; exact one _ l1 v1
end Mi
namespace G
open PySem PySem.Spec PyProof.Rows L2
def lastF : List Str := ["joined", "fuel", "reach", "inside", "hops", "letters", "hours", "end", "keeps_clear", "fields"]
def done (fs : List (Str × V)) : Bool := fs.any fun p => lastF.any fun q => decide (q = p.1)
def Froz : HO → Prop
 | .tup _ => True
 | .ins _ _ fs => done fs = true
 | .own _ => True
 | .frz _ _ => True
 | _ => False
def NCf : HO → Prop
 | .own _ => False
 | .ext _ => False
 | .ins _ _ _ => False
 | .frz _ _ => False
 | _ => True
def NCo (H H' : Hp) (b : Addr) : HO → Prop
 | .own y => ∃ C fs, H' y = some (.ins C b fs)
 | .ins C dx _ => H dx = none ∨ ∃ fs', H b = some (.ins C dx fs')
 | .ext φ => ∀ (h : Heap) (ob : Obj), φ h → h.get? b = some ob → ∀ v, ob.data ≠ .cell v
 | .frz o u => NCf u ∨ ((∃ φ, u = .ext φ) ∧ ∀ v, o.data ≠ .cell v)
 | _ => True
structure Chg (M : List Addr) (H H' : Hp) : Prop where
 keep : ∀ b o, H b = some o → (b ∉ M ∨ Froz o) → H' b = some o
 dom : ∀ b, H' b = none → H b = none
 ins : ∀ a C dx fs, H a = some (.ins C dx fs) → ∃ fs', H' a = some (.ins C dx fs')
 new : ∀ b o, H' b = some o → H b = some o ∨ NCo H H' b o
theorem Chg.refl {M : List Addr} (H : Hp) : Chg M H H := ⟨fun _ _ h _ => h, fun _ h => h, fun _ _ _ fs h => ⟨fs, h⟩, fun _ _ h => .inl h⟩
theorem NCo.chg {H H1 H2 : Hp} {b : Addr} {o : HO} (n : NCo H H1 b o) (i : ∀ a C dx fs, H1 a = some (.ins C dx fs) → ∃ fs', H2 a = some (.ins C dx fs')) : NCo H H2 b o := by
 cases o with
 | own y => obtain ⟨C, fs, e⟩ := n; obtain ⟨fs', e'⟩ := i _ _ _ _ e; exact ⟨C, fs', e'⟩
 | _ => exact n
theorem new_trans {H H1 H2 : Hp} (ad : ∀ b, H1 b = none → H b = none) (ai : ∀ b o, H1 b = some o → H b = some o ∨ NCo H H1 b o) (bi : ∀ a C dx fs, H1 a = some (.ins C dx fs) → ∃ fs', H2 a = some (.ins C dx fs')) (bn : ∀ b o, H2 b = some o → H1 b = some o ∨ NCo H1 H2 b o) :
   ∀ b o, H2 b = some o → H b = some o ∨ NCo H H2 b o := fun b o h => by
 rcases bn b o h with e | n
 · exact (ai b o e).imp id fun n => n.chg bi
 · refine .inr ?_
   cases o with
   | ins C dx fs =>
     rcases n with n | ⟨fs', n⟩
     · exact .inl (ad _ n)
     · rcases ai _ _ n with e | m
       · exact .inr ⟨fs', e⟩
       · exact m
   | _ => exact n
theorem Chg.trans {M : List Addr} {H H1 H2 : Hp} (a : Chg M H H1) (b : Chg M H1 H2) : Chg M H H2 :=
 ⟨fun x o h d => b.keep x o (a.keep x o h d) d, fun x h => a.dom x (b.dom x h), fun x C dx fs h => by obtain ⟨fs', h'⟩ := a.ins x C dx fs h; exact b.ins x C dx fs' h', new_trans a.dom a.new b.ins b.new⟩
theorem Chg.mono {M N : List Addr} {H H' : Hp} (a : Chg M H H') (s : ∀ x ∈ M, x ∈ N) : Chg N H H' :=
 ⟨fun b o h d => a.keep b o h (d.imp (fun z y => z (s b y)) id), a.dom, a.ins, a.new⟩
theorem Chg.none {M : List Addr} {H H' : Hp} (a : Chg [] H H') : Chg M H H' := a.mono (fun x h => nomatch h)
theorem Chg.new' {M : List Addr} {H : Hp} {p : Addr} {o : HO} (np : H p = .none) (hn : NCo H (upd H p o) p o) : Chg M H (upd H p o) :=
 ⟨fun b u h _ => by rw [upd_ne (ne_of_none h np)]; exact h, fun b h => by
   by_cases e : b = p
   · subst e; exact np
   · rw [upd_ne e] at h; exact h, fun a C dx fs h => ⟨fs, by rw [upd_ne (ne_of_none h np)]; exact h⟩, fun b u h => by
   by_cases e : b = p
   · subst e; rw [upd_same] at h; cases h; exact .inr hn
   · rw [upd_ne e] at h; exact .inl h⟩
theorem Chg.lay {M : List Addr} {H : Hp} {p : Addr} {o : HO} (np : H p = .none) (hn : NCf o) : Chg M H (upd H p o) := Chg.new' np (by
 cases o <;> first | exact hn.elim | trivial)
theorem Chg.wr {H : Hp} {p : Addr} {o u : HO} (hp : H p = some u) (nf : ¬ Froz u) (hi : ∀ C dx fs, u = .ins C dx fs → ∃ fs', o = .ins C dx fs' := by intro _ _ _ z; cases z) (hn : NCo H (upd H p o) p o := by first | trivial | exact .inl trivial) : Chg [p] H (upd H p o) :=
 ⟨fun b w h d => by
   have e : b ≠ p := by
     intro e; subst e
     rw [hp] at h; cases h
     rcases d with d | d
     · exact d (List.mem_singleton.mpr rfl)
     · exact nf d
   rw [upd_ne e]; exact h, fun b h => by
   by_cases e : b = p
   · subst e; rw [upd_same] at h; cases h
   · rw [upd_ne e] at h; exact h, fun a C dx fs h => by
   by_cases e : a = p
   · subst e
     rw [hp] at h; cases h
     obtain ⟨fs', rfl⟩ := hi _ _ _ rfl
     exact ⟨fs', upd_same⟩
   · exact ⟨fs, by rw [upd_ne e]; exact h⟩, fun b w h => by
   by_cases e : b = p
   · subst e; rw [upd_same] at h; cases h; exact .inr hn
   · rw [upd_ne e] at h; exact .inl h⟩
theorem Chg.loc {M N : List Addr} {H0 H H' : Hp} (a : Chg M H0 H) (b : Chg N H H') (fr : ∀ x ∈ N, H0 x = .none) : Chg M H0 H' :=
 ⟨fun x o h d => b.keep x o (a.keep x o h d) (.inl (fun z => by rw [fr x z] at h; cases h)), fun x h => a.dom x (b.dom x h), fun x C dx fs h => by obtain ⟨fs', h'⟩ := a.ins x C dx fs h; exact b.ins x C dx fs' h', new_trans a.dom a.new b.ins b.new⟩
theorem Chg.join {M N : List Addr} {H0 H H' : Hp} (a : Chg M H0 H) (b : Chg N H H') (fr : ∀ x ∈ N, x ∈ M ∨ H0 x = .none) : Chg M H0 H' :=
 ⟨fun x o h d => b.keep x o (a.keep x o h d) (by
   rcases d with d | d
   · refine .inl (fun z => ?_)
     rcases fr x z with y | y
     · exact d y
     · rw [y] at h; cases h
   · exact .inr d), fun x h => a.dom x (b.dom x h), fun x C dx fs h => by obtain ⟨fs', h'⟩ := a.ins x C dx fs h; exact b.ins x C dx fs' h', new_trans a.dom a.new b.ins b.new⟩
theorem Chg.free {M : List Addr} {H H' : Hp} (a : Chg M H H') {p : Addr} (np : H' p = .none) : H p = .none := a.dom p np
structure Ty (α : Type) where
 rep : PySem.W.Frag → Hp → List Addr → V → α → Prop
 keep : ∀ {K : PySem.W.Frag} {H H' : Hp} {F : List Addr} {v : V} {d : α}, rep K H F v d → (∀ b o, H b = some o → (b ∈ F ∨ Froz o) → H' b = some o) → rep K H' F v d
 dom : ∀ {K : PySem.W.Frag} {H : Hp} {F : List Addr} {v : V} {d : α}, rep K H F v d → ∀ b ∈ F, ∃ o, H b = some o ∧ ¬ Froz o
def Dj (F G : List Addr) : Prop := ∀ a ∈ F, a ∉ G
theorem Dj.symm {F G : List Addr} (d : Dj F G) : Dj G F := fun a h z => d a z h
theorem Dj.nil {F : List Addr} : Dj [] F := fun a h => nomatch h
theorem Dj.nilR {F : List Addr} : Dj F [] := fun a h z => nomatch z
section
variable {α β : Type} {τ : Ty α} {υ : Ty β} {K : PySem.W.Frag} {H H' : Hp} {F G M : List Addr} {v u : V} {d : α} {p : Addr}
theorem Ty.chg (r : τ.rep K H F v d) (c : Chg M H H') (dj : Dj F M) : τ.rep K H' F v d :=
 τ.keep r fun b o h z => c.keep b o h (z.imp (fun y => dj b y) id)
theorem Ty.ex (r : τ.rep K H F v d) (c : Chg [] H H') : τ.rep K H' F v d := Ty.chg r c Dj.nilR
theorem Ty.fz (r : τ.rep K H [] v d) (c : Chg M H H') : τ.rep K H' [] v d := Ty.chg r c Dj.nil
theorem Ty.nin (r : τ.rep K H F v d) (np : H p = none) : Dj F [p] := fun a h z => by
 rw [List.mem_singleton] at z; subst z
 obtain ⟨o, e, _⟩ := τ.dom r a h
 rw [np] at e; cases e
theorem Ty.fresh (r : τ.rep K H F v d) (np : ∀ a ∈ G, H a = none) : Dj F G := fun a h z => by
 obtain ⟨o, e, _⟩ := τ.dom r a h
 rw [np a z] at e; cases e
end
theorem one_fresh {H : Hp} {p : Addr} (np : H p = none) : ∀ a ∈ [p], H a = none := fun a h => by
 rw [List.mem_singleton] at h; subst h; exact np
def yInt : Ty Int := ⟨fun _ _ F v d => F = [] ∧ v = .int d, fun h _ => h, fun h b m => by rw [h.1] at m; cases m⟩
def yBool : Ty Bool := ⟨fun _ _ F v d => F = [] ∧ v = .bl d, fun h _ => h, fun h b m => by rw [h.1] at m; cases m⟩
theorem yInt_i {K : PySem.W.Frag} {H : Hp} {i : Int} : yInt.rep K H [] (.int i) i := ⟨rfl, rfl⟩
def yOpt {α : Type} (τ : Ty α) : Ty (Option α) where
 rep K H F v d := match d with
   | none => F = [] ∧ v = .non
   | some x => v ≠ .non ∧ τ.rep K H F v x
 keep {K H H' F v d} h k := by
   cases d with
   | none => exact h
   | some x => exact ⟨h.1, τ.keep h.2 k⟩
 dom {K H F v d} h b m := by
   cases d with
   | none => rw [h.1] at m; cases m
   | some x => exact τ.dom h.2 b m
def yLst {α : Type} (τ : Ty α) : Ty (List α) where
 rep K H F v xs := ∃ a vs, v = .ref a ∧ F = [a] ∧ H a = some (.lst vs) ∧ Paired (fun u x => τ.rep K H [] u x) vs xs
 keep {K H H' F v xs} h k := by
   obtain ⟨a, vs, e, f, g, r⟩ := h
   subst f
   exact ⟨a, vs, e, rfl, k a _ g (.inl (List.mem_singleton.mpr rfl)), Paired.mapP r fun u x q => τ.keep q fun b o hb z => k b o hb (z.elim (fun y => nomatch y) .inr)⟩
 dom {K H F v xs} h b m := by
   obtain ⟨a, vs, e, f, g, r⟩ := h
   subst f
   rw [List.mem_singleton] at m; subst m
   exact ⟨_, g, fun z => z⟩
theorem SqT.keeps {K : PySem.W.Frag} {H H' : Hp} {a : Addr} {vs : List V} (s : SqT K H a vs) (k : ∀ b o, H b = some o → Froz o → H' b = some o) : SqT K H' a vs := by
 rcases s with (s | ⟨o, s⟩) | s
 · exact .inl (.inl (k _ _ s trivial))
 · exact .inl (.inr ⟨o, k _ _ s trivial⟩)
 · exact .inr s
structure Tys (α : Type) where
 rep : PySem.W.Frag → Hp → List Addr → List V → α → Prop
 keep : ∀ {K : PySem.W.Frag} {H H' : Hp} {F : List Addr} {v : List V} {d : α}, rep K H F v d → (∀ b o, H b = some o → (b ∈ F ∨ Froz o) → H' b = some o) → rep K H' F v d
 dom : ∀ {K : PySem.W.Frag} {H : Hp} {F : List Addr} {v : List V} {d : α}, rep K H F v d → ∀ b ∈ F, ∃ o, H b = some o ∧ ¬ Froz o
def sOne {α : Type} (τ : Ty α) : Tys α where
 rep K H F vs x := ∃ v, vs = [v] ∧ τ.rep K H F v x
 keep h k := by obtain ⟨v, e, r⟩ := h; exact ⟨v, e, τ.keep r k⟩
 dom h b m := by obtain ⟨v, e, r⟩ := h; exact τ.dom r b m
def sCons {α β : Type} (τ : Ty α) (ts : Tys β) : Tys (α × β) where
 rep K H F vs x := ∃ v ws F1 F2, vs = v :: ws ∧ F = F1 ++ F2 ∧ τ.rep K H F1 v x.1 ∧ ts.rep K H F2 ws x.2
 keep {K H H' F v d} h k := by
   obtain ⟨v, ws, F1, F2, e, f, r, q⟩ := h
   subst f
   exact ⟨v, ws, F1, F2, e, rfl, τ.keep r fun b o hb z => k b o hb (z.imp (fun y => List.mem_append_left _ y) id), ts.keep q fun b o hb z => k b o hb (z.imp (fun y => List.mem_append_right _ y) id)⟩
 dom {K H F v d} h b m := by
   obtain ⟨v, ws, F1, F2, e, f, r, q⟩ := h
   subst f
   rcases List.mem_append.mp m with m | m
   · exact τ.dom r b m
   · exact ts.dom q b m
def yTup {α : Type} (ts : Tys α) : Ty α where
 rep K H F v d := ∃ a vs, v = .ref a ∧ SqT K H a vs ∧ ts.rep K H F vs d
 keep h k := by
   obtain ⟨a, vs, e, s, r⟩ := h
   exact ⟨a, vs, e, SqT.keeps s fun b o hb z => k b o hb (.inr z), ts.keep r k⟩
 dom h b m := by obtain ⟨a, vs, e, s, r⟩ := h; exact ts.dom r b m
def yScr : Ty (List Int) where
 rep K H F v xs := F = [] ∧ ∃ a, v = .ref a ∧ ∀ H', (∀ b o, H b = some o → Froz o → H' b = some o) → SqL K H' a (xs.map V.int)
 keep {K H H' F v xs} h k := by
   obtain ⟨f, a, e, g⟩ := h
   exact ⟨f, a, e, fun H2 k2 => g H2 fun b o hb z => k2 b o (k b o hb (.inr z)) z⟩
 dom {K H F v xs} h b m := by
   rw [h.1] at m; cases m
end G
namespace G
open PySem PySem.Spec PyProof.Rows L2
theorem at_eq {α : Type} (xs : List α) (i : Int) : L2.atI xs i = Mi.at_ xs i := rfl
theorem line_big : Mi.big ≤ sizeLine := by rw [sizeLine_eq]; decide
section paired
variable {α β γ : Type} {R : α → β → Prop}
theorem pr_len {xs : List α} {ys : List β} (r : Paired R xs ys) : xs.length = ys.length := Paired.length r
theorem pr_get : ∀ {xs : List α} {ys : List β} {j : Nat} {y : β}, Paired R xs ys → ys[j]? = some y → ∃ x, xs[j]? = some x ∧ R x y
 | _, _, _, _, .nil, e => by simp at e
 | _, _, 0, _, .cons r _, e => by simp at e; subst e; exact ⟨_, rfl, r⟩
 | _, _, j + 1, y, .cons _ t, e => by
   obtain ⟨u, h1, h2⟩ := pr_get (j := j) (y := y) t (by simpa using e)
   exact ⟨u, by simpa using h1, h2⟩
theorem pr_set {x : α} {y : β} (r : R x y) : ∀ {xs : List α} {ys : List β} (i : Nat), Paired R xs ys → Paired R (xs.set i x) (ys.set i y)
 | _, _, _, .nil => .nil
 | _, _, 0, .cons _ t => .cons r t
 | _, _, i + 1, .cons q t => .cons q (pr_set r i t)
theorem pr_app : ∀ {xs zs : List α} {ys ws : List β}, Paired R xs ys → Paired R zs ws → Paired R (xs ++ zs) (ys ++ ws)
 | _, _, _, _, .nil, s => s
 | _, _, _, _, .cons r t, s => .cons r (pr_app t s)
theorem pr_at {xs : List α} {ys : List β} {i : Int} {y : β} (r : Paired R xs ys) (h : Mi.at_ ys i = some y) : ∃ x, L2.atI xs i = some x ∧ R x y := by
 rw [at_eq]
 unfold Mi.at_ at h ⊢
 rw [pr_len r]
 obtain ⟨j, e, h⟩ := Mi.bnd h
 obtain ⟨x, e2, q⟩ := pr_get r h
 exact ⟨x, by rw [e]; exact e2, q⟩
theorem pr_map (f : β → α) (h : ∀ b, R (f b) b) : ∀ ys : List β, Paired R (ys.map f) ys
 | [] => .nil
 | y :: ys => .cons (h y) (pr_map f h ys)
theorem pr_of_map (f : β → α) (h : ∀ a b, R a b → a = f b) : ∀ {xs : List α} {ys : List β}, Paired R xs ys → xs = ys.map f
 | _, _, .nil => rfl
 | _, _, .cons r t => by rw [h _ _ r, pr_of_map f h t]; rfl
end paired
theorem ints_of {K : PySem.W.Frag} {H : Hp} {vs : List V} {ns : List Int} (r : Paired (fun u x => yInt.rep K H [] u x) vs ns) : vs = ns.map V.int := pr_of_map V.int (fun _ _ q => q.2) r
theorem ints_mk {K : PySem.W.Frag} {H : Hp} (ns : List Int) : Paired (fun u x => yInt.rep K H [] u x) (ns.map V.int) ns := pr_map V.int (fun _ => ⟨rfl, rfl⟩) ns
section vals
variable {K : PySem.W.Frag} {σ : L2.St} {H : Hp} {F : List Addr} {ta tb te : TE} {v u x y : V} {i j : Int} {t : TT} {b c : Bool} {α β : Type} {τ : Ty α}
theorem val_I0 {g : Int → Int → V} (ha : Val ta σ H (.int i)) (hb : Val tb σ H (.int j)) : Val (tOp (rI0 g) ta tb) σ H (g i j) := val_op ha hb fun Q q => ⟨i, j, rfl, rfl, q⟩
theorem val_I {C : Int → Int → Prop} {g : Int → Int → V} (ha : Val ta σ H (.int i)) (hb : Val tb σ H (.int j)) (hc : C i j) : Val (tOp (rI C g) ta tb) σ H (g i j) := val_op ha hb fun Q q => ⟨i, j, rfl, rfl, hc, q⟩
theorem dI {i j : Int} : decide (V.int i = V.int j) = decide (i = j) := by
 by_cases e : i = j
 · subst e; simp
 · rw [decide_eq_false e, decide_eq_false (fun q => e (V.int.inj q))]
theorem val_eqI (ha : Val ta σ H (.int i)) (hb : Val tb σ H (.int j)) : Val (tOp rEq ta tb) σ H (.bl (decide (i = j))) := val_op ha hb fun Q q => ⟨rfl, by rw [dI]; exact q⟩
theorem val_neI (ha : Val ta σ H (.int i)) (hb : Val tb σ H (.int j)) : Val (tOp rNe ta tb) σ H (.bl (!decide (i = j))) := val_op ha hb fun Q q => ⟨rfl, by rw [dI]; exact q⟩
theorem val_is {w : V} (h : Val te σ H v) (e : v = w) : Val te σ H w := e ▸ h
theorem mulC {i j r : Int} (h : Mi.mul i j = some r) : CMul i j ∧ i * j = r := by
 unfold Mi.mul at h
 split at h
 · exact ⟨by assumption, Option.some.inj h⟩
 · cases h
theorem modC {i j r : Int} (h : Mi.mod i j = some r) : 0 < j ∧ i % j = r := by
 unfold Mi.mod at h
 split at h
 · exact ⟨by assumption, Option.some.inj h⟩
 · cases h
theorem divC {i j r : Int} (h : Mi.fdiv i j = some r) : CDivW i j ∧ i / j = r := by
 unfold Mi.fdiv at h
 split at h
 · rename_i hc
   refine ⟨wide_div (b := 200) hc.1 ?_ (by decide) (by decide), Option.some.inj h⟩
   omega
 · cases h
theorem val_mul {r : Int} (ha : Val ta σ H (.int i)) (hb : Val tb σ H (.int j)) (h : Mi.mul i j = some r) : Val (tOp (rI CMul fun i j => .int (i * j)) ta tb) σ H (.int r) := val_is (val_I ha hb (mulC h).1) (by rw [(mulC h).2])
theorem val_mod {r : Int} (ha : Val ta σ H (.int i)) (hb : Val tb σ H (.int j)) (h : Mi.mod i j = some r) : Val (tOp (rI (fun _ j => 0 < j) fun i j => .int (i % j)) ta tb) σ H (.int r) := val_is (val_I ha hb (modC h).1) (by rw [(modC h).2])
theorem val_fdiv {r : Int} (ha : Val ta σ H (.int i)) (hb : Val tb σ H (.int j)) (h : Mi.fdiv i j = some r) : Val (tOp (rI CDivW fun i j => .int (i / j)) ta tb) σ H (.int r) := val_is (val_I ha hb (divC h).1) (by rw [(divC h).2])
theorem ans_t (h : Val te σ H (.bl b)) : Ans (tTest te) σ H b := fun Q q => h _ ⟨b, rfl, q⟩
def rInt1 : List V → Hp → VK → Prop := fun xs H Q => (∃ i, xs = [.int i] ∧ Q (.int i) H) ∨ ∃ k, xs = [.bl k] ∧ Q (.int (if k then 1 else 0)) H
theorem cl_int {X : Cx} : CallR X (.type "int") rInt1 := call_int1
theorem val_int (ha : Val ta σ H (.int i)) : Val (tCB rInt1 (tCons ta tNil)) σ H (.int i) := fun Q q => ha _ (.inl ⟨i, rfl, q⟩)
def rLenQ (K : PySem.W.Frag) : List V → Hp → VK → Prop := fun xs H Q => ∃ p ys, xs = [.ref p] ∧ (SqL K H p ys ∨ SqT K H p ys) ∧ Q (.int ys.length) H
theorem cl_len {X : Cx} {K : PySem.W.Frag} (e : X.K = K := by rfl) : CallR X (.builtin "len") (rLenQ K) := by subst e; exact call_len_seq
theorem lst_sq {xs : List α} (r : (yLst τ).rep K H F v xs) : ∃ a vs, v = .ref a ∧ SqL K H a vs ∧ Paired (fun u x => τ.rep K H [] u x) vs xs := by
 obtain ⟨a, vs, e, f, g, q⟩ := r
 exact ⟨a, vs, e, .inl (.inl g), q⟩
theorem scr_sq {xs : List Int} (r : yScr.rep K H F v xs) : ∃ a vs, v = .ref a ∧ SqL K H a vs ∧ Paired (fun u x => yInt.rep K H [] u x) vs xs := by
 obtain ⟨f, a, e, g⟩ := r
 exact ⟨a, _, e, g H fun _ _ h _ => h, ints_mk xs⟩
theorem val_lenL {xs : List α} (r : (yLst τ).rep K H F v xs) (ha : Val ta σ H v) : Val (tCB (rLenQ K) (tCons ta tNil)) σ H (.int (xs.length : Int)) := by
 obtain ⟨a, vs, e, s, q⟩ := lst_sq r
 subst e
 exact fun Q k => ha _ ⟨a, vs, rfl, .inl s, by rw [pr_len q]; exact k⟩
theorem val_lenS {xs : List Int} (r : yScr.rep K H F v xs) (ha : Val ta σ H v) : Val (tCB (rLenQ K) (tCons ta tNil)) σ H (.int (xs.length : Int)) := by
 obtain ⟨a, vs, e, s, q⟩ := scr_sq r
 subst e
 exact fun Q k => ha _ ⟨a, vs, rfl, .inl s, by rw [pr_len q]; exact k⟩
theorem ix_l {X : Cx} {K : PySem.W.Frag} (e : X.K = K := by rfl) : IxR X (rIxL K) := by subst e; exact ix_list
theorem ix_t {X : Cx} {K : PySem.W.Frag} (e : X.K = K := by rfl) : IxR X (rIxT K) := by subst e; exact ix_tup
theorem itm_L {xs : List α} {x : α} (r : (yLst τ).rep K H F v xs) (h : Mi.at_ xs i = some x) :
   ∃ u, τ.rep K H [] u x ∧ ∀ {σ : L2.St} {ta tb : TE}, Val ta σ H v → Val tb σ H (.int i) → Val (tOp (rIxL K) ta tb) σ H u := by
 obtain ⟨a, vs, e, s, q⟩ := lst_sq r
 subst e
 obtain ⟨u, e, ru⟩ := pr_at q h
 exact ⟨u, ru, fun ha hb => val_op ha hb fun Q k => ⟨a, vs, i, u, rfl, rfl, s, e, k⟩⟩
theorem itm_S {xs : List Int} {x : Int} (r : yScr.rep K H F v xs) (h : Mi.at_ xs i = some x) {σ : L2.St} {ta tb : TE} (ha : Val ta σ H v) (hb : Val tb σ H (.int i)) : Val (tOp (rIxL K) ta tb) σ H (.int x) := by
 obtain ⟨a, vs, e, s, q⟩ := scr_sq r
 subst e
 obtain ⟨u, e, ru⟩ := pr_at q h
 obtain ⟨_, rfl⟩ := ru
 exact val_op ha hb fun Q k => ⟨a, vs, i, _, rfl, rfl, s, e, k⟩
theorem itm_LI {xs : List Int} {x : Int} (r : (yLst yInt).rep K H F v xs) (h : Mi.at_ xs i = some x) {σ : L2.St} {ta tb : TE} (ha : Val ta σ H v) (hb : Val tb σ H (.int i)) : Val (tOp (rIxL K) ta tb) σ H (.int x) := by
 obtain ⟨u, ⟨_, rfl⟩, k⟩ := itm_L r h
 exact k ha hb
theorem cl_isi {X : Cx} {K : PySem.W.Frag} (e : X.K = K := by rfl) : CallR X (.builtin "isinstance") (rIsi K) := by subst e; exact call_isi
theorem val_isi {n m : String} {b : Bool} (ha : Val ta σ H v) (ht : TyX K H v (.type n)) (h : kitB n m = some b) : Val (tCB (rIsi K) (tCons ta (tCons (tC (.ty m)) tNil))) σ H (.bl b) := fun Q q =>
 ha _ ⟨v, .ty m, .type n, .type m, b, rfl, .ty m, ht, kit_ty h, q⟩
theorem ty_int : TyX K H (.int i) (.type "int") := .base (.int i)
theorem ty_non : TyX K H .non (.type "NoneType") := .base .non
theorem ty_lst {xs : List α} (r : (yLst τ).rep K H F v xs) : TyX K H v (.type "list") := by
 obtain ⟨a, vs, rfl, f, g, q⟩ := r
 exact .base (.lst g)
theorem ty_sqt {a : Addr} {vs : List V} (s : SqT K H a vs) : TyX K H (.ref a) (.type "tuple") := by
 rcases s with (s | ⟨o, s⟩) | ⟨o, its, n, e, c, _⟩
 · exact .base (.tup s)
 · exact .fTuple s
 · exact .kTuple e c
theorem ty_tup {ts : Tys α} {d : α} (r : (yTup ts).rep K H F v d) : TyX K H v (.type "tuple") := by
 obtain ⟨a, vs, rfl, s, q⟩ := r
 exact ty_sqt s
end vals
section cps
variable {K : PySem.W.Frag} {σ σ' : L2.St} {H : Hp} {F : List Addr} {ta tb te : TE} {v u x y : V} {i j : Int} {t : TT} {b c : Bool} {α β : Type} {τ : Ty α} {Q : VK} {D : Ends} {t1 t2 : TS}
theorem c_val (h : Val te σ H v) (k : Q v H) : te σ H Q := h Q k
theorem c_ans {Q : Bool → Hp → Prop} (h : Ans t σ H b) (k : Q b H) : t σ H Q := h Q k
theorem c_if {A B : Prop} (h1 : b = true → A) (h2 : b = false → B) : if b = true then A else B := by
 cases b with
 | true => exact iteT (h1 rfl)
 | false => exact iteF (h2 rfl)
theorem s_if (h : Ans t σ H b) (h1 : b = true → t1 D σ H) (h2 : b = false → t2 D σ H) : tIfS t t1 t2 D σ H := h _ (c_if h1 h2)
theorem s_join {R : L2.St → Hp → Prop} (w : ∀ nx : L2.St → Hp → Prop, (∀ σ' H', R σ' H' → nx σ' H') → t1 { D with nx := nx } σ H) (k : ∀ σ' H', R σ' H' → t2 D σ' H') : tSeq t1 t2 D σ H := w _ k
theorem g_name {i : Nat} {Q : L2.St → Hp → Prop} (e : σ.set i (some v) = σ') (k : Q σ' H) : gName i v σ H Q := by show Q (σ.set i (some v)) H; rw [e]; exact k
theorem sz {n : Nat} (h : n ≤ Mi.big) : n ≤ sizeLine := Nat.le_trans h line_big
def VaA (t : TA) (σ : L2.St) (H : Hp) (vs : List V) : Prop := ∀ Q : List V → Hp → Prop, Q vs H → t σ H Q
theorem va_nil : VaA tNil σ H [] := fun Q q => q
theorem va_cons {tr : TA} {vs : List V} (h : Val ta σ H v) (r : VaA tr σ H vs) : VaA (tCons ta tr) σ H (v :: vs) := fun Q q => h _ (r _ q)
theorem m_app {xs ys : List α} {d : α} (r : (yLst τ).rep K H F v xs) (ru : τ.rep K H [] u d) (hm : Mi.app xs d = some ys) (k : ∀ H', Chg F H H' → (yLst τ).rep K H' F v ys → Q .non H') : rAppend v [u] H Q := by
 obtain ⟨p, vs, rfl, rfl, g, q⟩ := r
 unfold Mi.app at hm
 split at hm
 · rename_i hz
   cases hm
   have c : Chg [p] H (upd H p (.lst (vs ++ [u]))) := Chg.wr g (fun z => z)
   refine ⟨p, vs, u, rfl, rfl, g, Nat.lt_of_lt_of_le (by rw [pr_len q]; exact hz) line_big, k _ c ⟨p, _, rfl, rfl, upd_same, ?_⟩⟩
   exact pr_app (Paired.mapP q fun _ _ z => Ty.fz z c) (.cons (Ty.fz ru c) .nil)
 · cases hm
theorem m_set {xs ys : List α} {d : α} {Q : Hp → Prop} (r : (yLst τ).rep K H F v xs) (ru : τ.rep K H [] u d) (hm : Mi.setAt xs i d = some ys) (k : ∀ H', Chg F H H' → (yLst τ).rep K H' F v ys → Q H') : rSetL v (.int i) u H Q := by
 obtain ⟨p, vs, rfl, rfl, g, q⟩ := r
 unfold Mi.setAt at hm
 obtain ⟨j, e, hm⟩ := Mi.bnd hm
 cases hm
 have c : Chg [p] H (upd H p (.lst (vs.set j u))) := Chg.wr g (fun z => z)
 refine ⟨p, vs, i, j, rfl, rfl, g, by rw [pr_len q]; exact e, k _ c ⟨p, _, rfl, rfl, upd_same, ?_⟩⟩
 exact pr_set (Ty.fz ru c) j (Paired.mapP q fun _ _ z => Ty.fz z c)
end cps
end G
namespace G
open PySem PySem.Spec PyProof.Rows L2
structure Bi (mg : Str → Option Value) : Prop where
 len : mg "len" = none
 range : mg "range" = none
 int : mg "int" = none
 bool : mg "bool" = none
 isinstance : mg "isinstance" = none
 max : mg "max" = none
 min : mg "min" = none
 list : mg "list" = none
 tuple : mg "tuple" = none
 sorted : mg "sorted" = none
 set : mg "set" = none
 enumerate : mg "enumerate" = none
 zip : mg "zip" = none
 reversed : mg "reversed" = none
 sum : mg "sum" = none
 any : mg "any" = none
 all : mg "all" = none
 str : mg "str" = none
structure Dfn (K : PySem.W.Frag) (mg : Str → Option Value) (x : Str) (st : Stmt) : Prop where
 ex : ∃ f fd, Fun K x x st f fd ∧ mg x = some (.ref f)
structure Cal (P : Program) (w : World) (K : PySem.W.Frag) (mg : Str → Option Value) (x : Str) (ps : List Str) (k : Nat) (sp : Sp) : Prop where
 ex : ∃ f fd, mg x = some (.ref f) ∧ PySem.W.keepIn K (.ref f) = true ∧ (∀ (s : Shared) (us : List Value), us.length = ps.length → BindsTo s fd ⟨us, []⟩ (ps.zip us)) ∧ ∀ base : Heap, FnOk P w K mg base CX0 k f fd ps sp
theorem pe_cc {X : Cx} {x : Str} {ps : List Str} {j k : Nat} {sp : Sp} {p pos : Pos} {e : Expr} {es : List Expr} {t : TA} (C : Cal X.prog X.w X.K X.mg x ps j sp) (hr : Room k X.A) (ha : PA X (e :: es) t) (hj : j ≤ k := by decide) (hg : Gl X x := by rfl)
   (hd : (x == ("__debug__" : Str)) = false := by decide) (he : starEach (e :: es) X.env = (false, eval e X.env) :: starEach es X.env := by rfl)
   (hpl : (backTo pos (starEach es X.env)).any (·.1) = false := by rfl) :
   PE X (.Call (.Name x p) (e :: es) [] pos) (tCall sp [] E0 t) := by
 obtain ⟨f, fd, g, kp, b, F⟩ := C.ex
 exact pe_call (F X.base) (hr.mono hj) hg g kp (fun s us _ hl => by rw [List.append_nil] at hl ⊢; exact b s us hl) .nil pass0 ha hd he hpl
theorem bindsF {K : PySem.W.Frag} {x qual : Str} {st : Stmt} {f : Addr} {fd : FuncData} {ps : List Str} (F : Fun K x qual st f fd)
   (h : ∀ (kV doc pm : Value) (an : Option Addr) (cdv ct : Value) (us : List Value), us.length = ps.length → bindArgs (PySem.W.fnOf x qual (defArgs st) (defBody st) (defScope st) .none kV doc pm an cdv ct) ⟨us, []⟩ = pure (ps.zip us)) (s : Shared) (us : List Value) (hl : us.length = ps.length) : BindsTo s fd ⟨us, []⟩ (ps.zip us) := by
 obtain ⟨oc, od, kV, doc, pm, an, cdv, ct, osl, rfl, lk, hcd⟩ := F.ex
 exact .of_eq (h kV doc pm an cdv ct us hl)
end G
namespace G
open PySem PySem.Spec PyProof.Rows L2
section
variable {K : PySem.W.Frag} {σ σ' : L2.St} {H : Hp} {F : List Addr} {ta tb te : TE} {v u x y : V} {i j : Int} {t tu : TT} {b c a : Bool} {α β : Type} {τ : Ty α} {Q : VK} {D : Ends} {t1 t2 : TS}
theorem val_add (ha : Val ta σ H (.int i)) (hb : Val tb σ H (.int j)) : Val (tOp (rI0 fun i j => .int (i + j)) ta tb) σ H (.int (i + j)) := val_I0 ha hb
theorem val_sub (ha : Val ta σ H (.int i)) (hb : Val tb σ H (.int j)) : Val (tOp (rI0 fun i j => .int (i - j)) ta tb) σ H (.int (i - j)) := val_I0 ha hb
theorem val_lt (ha : Val ta σ H (.int i)) (hb : Val tb σ H (.int j)) : Val (tOp (rI0 fun i j => .bl (decide (i < j))) ta tb) σ H (.bl (decide (i < j))) := val_I0 (g := fun i j => .bl (decide (i < j))) ha hb
theorem val_le (ha : Val ta σ H (.int i)) (hb : Val tb σ H (.int j)) : Val (tOp (rI0 fun i j => .bl (decide (i ≤ j))) ta tb) σ H (.bl (decide (i ≤ j))) := val_I0 (g := fun i j => .bl (decide (i ≤ j))) ha hb
theorem val_gt (ha : Val ta σ H (.int i)) (hb : Val tb σ H (.int j)) : Val (tOp (rI0 fun i j => .bl (decide (j < i))) ta tb) σ H (.bl (decide (j < i))) := val_I0 (g := fun i j => .bl (decide (j < i))) ha hb
theorem val_ge (ha : Val ta σ H (.int i)) (hb : Val tb σ H (.int j)) : Val (tOp (rI0 fun i j => .bl (decide (j ≤ i))) ta tb) σ H (.bl (decide (j ≤ i))) := val_I0 (g := fun i j => .bl (decide (j ≤ i))) ha hb
theorem val_mulL (ha : Val ta σ H (.int i)) (hb : Val tb σ H (.int j)) (h : -(2 ^ 64) < i ∧ i < 2 ^ 64) : Val (tOp (rI CMul fun i j => .int (i * j)) ta tb) σ H (.int (i * j)) := val_I (g := fun i j => .int (i * j)) ha hb (.inl h)
theorem val_modc (ha : Val ta σ H (.int i)) (hb : Val tb σ H (.int j)) (h : 0 < j) : Val (tOp (rI (fun _ j => 0 < j) fun i j => .int (i % j)) ta tb) σ H (.int (i % j)) := val_I (g := fun i j => .int (i % j)) ha hb h
theorem val_divc (ha : Val ta σ H (.int i)) (hb : Val tb σ H (.int j)) (h : CDiv i j) : Val (tOp (rI CDiv fun i j => .int (i / j)) ta tb) σ H (.int (i / j)) := val_I (g := fun i j => .int (i / j)) ha hb h
theorem val_pow {n : Nat} (ha : Val ta σ H (.int i)) (hb : Val tb σ H (.int j)) (e : j = (n : Int)) (hn : n ≤ 1000000) (h : i.natAbs < 2 ^ 64) : Val (tOp (rI CPow fun i j => .int (i ^ j.toNat)) ta tb) σ H (.int (i ^ n)) := by
 subst e
 exact val_I (g := fun i j => .int (i ^ j.toNat)) ha hb ⟨by omega, by omega, h⟩
theorem ans_B (h : Val te σ H (.bl b)) : Ans (tB te) σ H b := ans_val h
theorem ans_N (h : Ans t σ H b) : Ans (tNot t) σ H (!b) := ans_not h
theorem ans_andB (h1 : Ans t σ H a) (h2 : a = true → Ans tu σ H b) : Ans (tAnd t tu) σ H (a && b) := by
 cases a with
 | true => exact ans_and h1 (h2 rfl)
 | false => exact ans_and0 h1
theorem ans_orB (h1 : Ans t σ H a) (h2 : a = false → Ans tu σ H b) : Ans (tOr t tu) σ H (a || b) := by
 cases a with
 | true => exact ans_or1 h1
 | false => exact ans_or h1 (h2 rfl)
theorem ans_andO {m : Option Bool} (h1 : Ans t σ H a) (hc : (if a = true then m else some false) = some c) (h2 : m = some c → Ans tu σ H c) : Ans (tAnd t tu) σ H c := by
 cases a with
 | true => exact ans_and h1 (h2 hc)
 | false => cases hc; exact ans_and0 h1
theorem ans_orO {m : Option Bool} (h1 : Ans t σ H a) (hc : (if a = true then some true else m) = some c) (h2 : m = some c → Ans tu σ H c) : Ans (tOr t tu) σ H c := by
 cases a with
 | true => cases hc; exact ans_or1 h1
 | false => exact ans_or h1 (h2 hc)
theorem val_notV (h : Val ta σ H (.bl a)) : Val (tNotV ta) σ H (.bl (!a)) := fun Q q => h _ ⟨a, rfl, q⟩
theorem val_andV (h1 : Val ta σ H (.bl a)) (h2 : a = true → Val tb σ H (.bl b)) : Val (tAndV ta tb) σ H (.bl (a && b)) := fun Q q => h1 _ ⟨a, rfl, by
 cases a with
 | true => exact iteT (h2 rfl Q q)
 | false => exact iteF q⟩
theorem w_op {r : R2} (h : ta σ H fun x H1 => tb σ H1 fun y H2 => r x y H2 Q) : tOp r ta tb σ H Q := h
theorem w_cb {r : List V → Hp → VK → Prop} {ts : TA} (h : ts σ H fun vs H1 => r vs H1 Q) : tCB r ts σ H Q := h
theorem w_call {sp : Sp} {dvs : List V} {E : XK} {ts : TA} (h : ts σ H fun vs H1 => sp (vs ++ dvs) H1 Q E) : tCall sp dvs E ts σ H Q := h
theorem w_cons {tr : TA} {Q : List V → Hp → Prop} (h : ta σ H fun x H1 => tr σ H1 fun xs H2 => Q (x :: xs) H2) : tCons ta tr σ H Q := h
theorem w_nil {Q : List V → Hp → Prop} (h : Q [] H) : tNil σ H Q := h
theorem w_args {ts : TA} {vs : List V} {Q : List V → Hp → Prop} (h : VaA ts σ H vs) (k : Q vs H) : ts σ H Q := h Q k
def LstG (xs : List V) (H : Hp) (Q : VK) : Prop := xs.length ≤ sizeLine ∧ ∀ p, H p = none → Q (.ref p) (upd H p (.lst xs))
def TupG (xs : List V) (H : Hp) (Q : VK) : Prop := xs.length ≤ sizeLine ∧ ∀ p, H p = none → Q (.ref p) (upd H p (.tup xs))
theorem w_lst {ts : TA} (h : ts σ H fun xs H1 => LstG xs H1 Q) : L2.tLst ts σ H Q := h
theorem w_tup {ts : TA} (h : ts σ H fun xs H1 => TupG xs H1 Q) : L2.tTup ts σ H Q := h
theorem w_test {Q : Bool → Hp → Prop} (h : te σ H fun x H' => ∃ k, x = .bl k ∧ Q k H') : tTest te σ H Q := h
theorem w_B {Q : Bool → Hp → Prop} (h : te σ H fun x H' => ∃ k, x = .bl k ∧ Q k H') : tB te σ H Q := h
theorem w_not {Q : Bool → Hp → Prop} (h : t σ H fun c H1 => Q (!c) H1) : tNot t σ H Q := h
theorem w_or {Q : Bool → Hp → Prop} (h : t σ H fun c H1 => if c = true then Q true H1 else tu σ H1 Q) : tOr t tu σ H Q := h
theorem w_I0 {g : Int → Int → V} (k : Q (g i j) H) : rI0 g (.int i) (.int j) H Q := ⟨i, j, rfl, rfl, k⟩
theorem w_eqI (k : Q (.bl (decide (i = j))) H) : rEq (.int i) (.int j) H Q := ⟨rfl, by rw [dI]; exact k⟩
theorem w_neI (k : Q (.bl (!decide (i = j))) H) : rNe (.int i) (.int j) H Q := ⟨rfl, by rw [dI]; exact k⟩
theorem w_lenL {xs : List α} (r : (yLst τ).rep K H F v xs) (k : Q (.int (xs.length : Int)) H) : rLenQ K [v] H Q := by
 obtain ⟨a, vs, e, s, q⟩ := lst_sq r
 subst e
 exact ⟨a, vs, rfl, .inl s, by rw [pr_len q]; exact k⟩
theorem w_ixL {xs : List α} {x : α} (r : (yLst τ).rep K H F v xs) (h : Mi.at_ xs i = some x) (k : ∀ u, τ.rep K H [] u x → Q u H) : rIxL K v (.int i) H Q := by
 obtain ⟨a, vs, e, s, q⟩ := lst_sq r
 subst e
 obtain ⟨u, e, ru⟩ := pr_at q h
 exact ⟨a, vs, i, u, rfl, rfl, s, e, k u ru⟩
theorem e_lst {vs : List V} {xs : List α} (z : vs.length ≤ Mi.big) (r : Paired (fun u x => τ.rep K H [] u x) vs xs) (k : ∀ p H', H p = none → Chg [] H H' → (yLst τ).rep K H' [p] (.ref p) xs → Q (.ref p) H') :
 LstG vs H Q := ⟨sz z, fun p np => k p _ np (Chg.lay np trivial)
   ⟨p, vs, rfl, rfl, upd_same, Paired.mapP r fun u x q => Ty.ex q (Chg.lay np trivial)⟩⟩
theorem e_tup {ty : Tys α} {vs : List V} {d : α} {F : List Addr} (z : vs.length ≤ Mi.big) (r : ty.rep K H F vs d) (k : ∀ p H', H p = none → Chg [] H H' → (yTup ty).rep K H' F (.ref p) d → Q (.ref p) H') :
 TupG vs H Q := ⟨sz z, fun p np => k p _ np (Chg.lay np trivial)
   ⟨p, vs, rfl, .inl (.inl upd_same), ty.keep r fun b o e _ => by rw [upd_ne (ne_of_none e np)]; exact e⟩⟩
theorem w_gsub {to ti : TE} {ts : TSet} {Q : L2.St → Hp → Prop} (h : to σ H fun o H1 => ti σ H1 fun i H2 => ts o i v H2 fun H3 => Q σ H3) : gSub to ti ts v σ H Q := h
theorem w_bm {T : String} {r : V → List V → Hp → VK → Prop} {to : TE} {ts : TA} (h : to σ H fun x H1 => tyV K T x H1 ∧ ts σ H1 fun xs H2 => r x xs H2 Q) : tBM K T r to ts σ H Q := h
theorem tyv_lst {xs : List α} (r : (yLst τ).rep K H F v xs) : tyV K "list" v H := by
 obtain ⟨a, vs, rfl, s, q⟩ := lst_sq r
 exact .inl ⟨rfl, _, s⟩
theorem j_tt {R : Hp → Prop} {Q : Bool → Hp → Prop} (c : Bool) (w : ∀ Q' : Bool → Hp → Prop, (∀ H', R H' → Q' c H') → t σ H Q') (k : ∀ H', R H' → Q c H') : t σ H Q := w Q k
theorem q_asg {g : TG} (h : te σ H fun x H1 => g x σ H1 (t2 D)) : tSeq (tAsg te g) t2 D σ H := h
theorem q_setE {k : Nat} {w : V} (h : Val te σ H v) (ev : v = w) (e : σ.set k (some w) = σ') (q : t2 D σ' H) : tSeq (tAsg te (gName k)) t2 D σ H := by
 subst ev
 exact h _ (by show t2 D (σ.set k (some v)) H; rw [e]; exact q)
theorem q_drop (h : te σ H fun _ H1 => t2 D σ H1) : tSeq (tDrop te) t2 D σ H := h
theorem q_ret (h : te σ H D.rt) : tSeq (tRet te) t2 D σ H := h
theorem q_if {t3 : TS} (h : Ans t σ H b) (h1 : b = true → t1 { D with nx := t2 D } σ H) (h2 : b = false → t3 { D with nx := t2 D } σ H) : tSeq (tIfS t t1 t3) t2 D σ H := h _ (c_if h1 h2)
theorem q_ifS {t3 : TS} (h : t σ H fun b H1 => if b = true then t1 { D with nx := t2 D } σ H1 else t3 { D with nx := t2 D } σ H1) : tSeq (tIfS t t1 t3) t2 D σ H := h
theorem w_fall (h : t2 D σ H) : tNext { D with nx := t2 D } σ H := h
theorem w_nextJ {nx bk ct : L2.St → Hp → Prop} {rt : VK} (h : nx σ H) : tNext (Ends.mk nx rt bk ct) σ H := h
theorem q_aug {k : Nat} {f : Int → Int → Int} {m n p : Int} (hx : σ[k]? = some (some (.int m))) (h : Val te σ H (.int n)) (en : f m n = p) (e : σ.set k (some (.int p)) = σ') (q : t2 D σ' H) : tSeq (tAug k te (ipI f)) t2 D σ H :=
 ⟨_, hx, h _ ⟨m, n, rfl, rfl, by rw [en]; show t2 D (List.set σ k (some (.int p))) H; rw [e]; exact q⟩⟩
def LoopG (J : It) (g : TG) (tb : TS) (D : Ends) (nx : L2.St → Hp → Prop) (σ : L2.St) (H : Hp) : Prop := ∃ W : Nat → Nat → L2.St → Hp → Prop, (∃ m, W 0 m σ H) ∧ ∀ i m σ H, W i m σ H →
 (J.stop i H ∧ nx σ H) ∨ (J.go i H ∧ ∃ N : L2.St → Hp → Prop, (∀ σ' H', N σ' H' → ∃ m', m' < m ∧ W (i + 1) m' σ' H') ∧ ∀ x H', J.yld i H x H' → g x σ H' fun σ2 H2 => tb { D with nx := N, ct := N, bk := nx } σ2 H2)
theorem q_for {wi : TI} {g : TG} {tb : TS} (h : wi σ H fun J H1 => LoopG J g tb D (t2 D) σ H1) : tSeq (tFor wi g tb) t2 D σ H := h
theorem w_iList {tl : TE} {R : It → Hp → Prop} (h : tl σ H fun x H1 => ∃ a, x = .ref a ∧ (∃ xs, SqL K H1 a xs) ∧ R (Itl K a) H1) : iList K tl σ H R := h
theorem w_iRng1 {ts : TA} {R : It → Hp → Prop} (h : ts σ H fun vs H1 => ∃ j : Int, vs = [.int j] ∧ -(2 ^ 62) ≤ j ∧ j < 2 ^ 62 ∧ R (Itr 0 j.toNat) H1) : iRng1 ts σ H R := h
theorem rngO_some {lo hi : Int} {g : List Int} (h : Mi.rngO lo hi = some g) : g = Mi.rng lo hi ∧ (-(2 ^ 60) ≤ lo ∧ lo < 2 ^ 60) ∧ (-(2 ^ 60) ≤ hi ∧ hi < 2 ^ 60) := by
 unfold Mi.rngO at h
 split at h
 · rename_i c
   exact ⟨(Option.some.inj h).symm, c⟩
 · cases h
theorem rng_len (lo hi : Int) : (Mi.rng lo hi).length = (hi - lo).toNat := by unfold Mi.rng; rw [List.length_map, List.length_range]
theorem rng_at {lo hi : Int} {i : Nat} (h : i < (hi - lo).toNat) : (Mi.rng lo hi)[i]? = some (lo + i) := by
 unfold Mi.rng
 rw [List.getElem?_map, List.getElem?_range h]
 rfl
theorem l_rng {g : TG} {tb : TS} {nx : L2.St → Hp → Prop} {lo hi : Int} (Pv : Nat → L2.St → Hp → Prop) (h0 : Pv 0 σ H)
 (hs : ∀ (i : Nat) (x : Int) σ' H', (Mi.rng lo hi)[i]? = some x → Pv i σ' H' → g (.int x) σ' H' fun σ2 H2 => tb { D with nx := Pv (i + 1), ct := Pv (i + 1), bk := nx } σ2 H2) (hd : ∀ σ' H', Pv (Mi.rng lo hi).length σ' H' → nx σ' H') :
 LoopG (Itr lo (hi - lo).toNat) g tb D nx σ H := for_range (D := { D with nx := nx }) (lo := lo) (n := (hi - lo).toNat) Pv h0 (fun i σ' H' hi' p => hs i _ σ' H' (rng_at hi') p) (fun σ' H' p => hd σ' H' (by rw [rng_len]; exact p))
theorem l_rng1 {g : TG} {tb : TS} {nx : L2.St → Hp → Prop} {hi : Int} {xs : List Int} (hg : Mi.rngO 0 hi = some xs) (Pv : Nat → L2.St → Hp → Prop) (h0 : Pv 0 σ H)
   (hs : ∀ (i : Nat) (x : Int) σ' H', xs[i]? = some x → Pv i σ' H' → g (.int x) σ' H' fun σ2 H2 => tb { D with nx := Pv (i + 1), ct := Pv (i + 1), bk := nx } σ2 H2) (hd : ∀ σ' H', Pv xs.length σ' H' → nx σ' H') :
   ∃ j : Int, [V.int hi] = [.int j] ∧ -(2 ^ 62) ≤ j ∧ j < 2 ^ 62 ∧ LoopG (Itr 0 j.toNat) g tb D nx σ H := by
 obtain ⟨rfl, _, h1, h2⟩ := rngO_some hg
 refine ⟨hi, rfl, by omega, by omega, ?_⟩
 have e : hi.toNat = (hi - 0).toNat := by rw [Int.sub_zero]
 rw [e]
 exact l_rng Pv h0 hs hd
theorem l_lst {g : TG} {tb : TS} {nx : L2.St → Hp → Prop} {xs : List α} (r : (yLst τ).rep K H F v xs) (Pv : Nat → L2.St → Hp → Prop) (h0 : Pv 0 σ H) (hl : ∀ i σ' H', Pv i σ' H' → (yLst τ).rep K H' F v xs)
   (hs : ∀ (i : Nat) (x : α) (u : V) σ' H', xs[i]? = some x → τ.rep K H' [] u x → Pv i σ' H' → g u σ' H' fun σ2 H2 => tb { D with nx := Pv (i + 1), ct := Pv (i + 1), bk := nx } σ2 H2) (hd : ∀ σ' H', Pv xs.length σ' H' → nx σ' H') :
   ∃ a, v = .ref a ∧ (∃ xs, SqL K H a xs) ∧ LoopG (Itl K a) g tb D nx σ H := by
 obtain ⟨a, vs, e, s, q⟩ := lst_sq r
 refine ⟨a, e, ⟨vs, s⟩, fun i m σ' H' => m = xs.length - i ∧ i ≤ xs.length ∧ Pv i σ' H', ⟨xs.length, by omega, Nat.zero_le _, h0⟩, ?_⟩
 rintro i m σ' H' ⟨rfl, hi, p⟩
 obtain ⟨a', vs', e', s', q'⟩ := lst_sq (hl i σ' H' p)
 obtain rfl : a = a' := by rw [e] at e'; exact V.ref.inj e'
 by_cases hlt : i < xs.length
 · obtain ⟨u, hu, ru⟩ := pr_get q' (List.getElem?_eq_getElem hlt)
   refine .inr ⟨⟨vs', u, s', hu⟩, Pv (i + 1), fun σ2 H2 p' => ⟨xs.length - (i + 1), by omega, rfl, hlt, p'⟩, fun x H2 y => ?_⟩
   obtain ⟨rfl, y⟩ := y
   obtain rfl : x = u := Option.some.inj ((y _ s').symm.trans hu)
   exact hs i _ _ σ' _ (List.getElem?_eq_getElem hlt) ru p
 · obtain rfl : i = xs.length := by omega
   exact .inl ⟨⟨vs', s', by rw [pr_len q']; exact Nat.le_refl _⟩, hd σ' H' p⟩
end
def At {α β : Type} (ts : Tys α) (n : Nat) (τ : Ty β) (p : α → β) : Prop := ∀ {K : PySem.W.Frag} {H : Hp} {F : List Addr} {vs : List V} {d : α}, ts.rep K H F vs d → ∃ u F1, vs[n]? = some u ∧ τ.rep K H F1 u (p d) ∧ ∀ a ∈ F1, a ∈ F
theorem at1 {α : Type} {τ : Ty α} : At (sOne τ) 0 τ id := fun h => by
 obtain ⟨v, rfl, r⟩ := h
 exact ⟨v, _, rfl, r, fun _ h => h⟩
theorem at0 {α β : Type} {τ : Ty α} {ts : Tys β} : At (sCons τ ts) 0 τ (fun d => d.1) := fun h => by
 obtain ⟨v, ws, F1, F2, rfl, rfl, r, q⟩ := h
 exact ⟨v, F1, rfl, r, fun _ h => List.mem_append_left _ h⟩
theorem atS {α β γ : Type} {τ : Ty α} {ts : Tys β} {n : Nat} {υ : Ty γ} {p : β → γ} (A : At ts n υ p) : At (sCons τ ts) (n + 1) υ (fun d => p d.2) := fun h => by
 obtain ⟨v, ws, F1, F2, rfl, rfl, r, q⟩ := h
 obtain ⟨u, F3, e, ru, sub⟩ := A q
 exact ⟨u, F3, e, ru, fun _ h => List.mem_append_right _ (sub _ h)⟩
theorem Dj.sub {F G F1 : List Addr} (d : Dj F G) (s : ∀ a ∈ F1, a ∈ F) : Dj F1 G := fun a h => d a (s a h)
theorem itm_tup {α β : Type} {ts : Tys α} {n : Nat} {τ : Ty β} {p : α → β} {K : PySem.W.Frag} {H : Hp} {F : List Addr} {v : V} {d : α} (A : At ts n τ p) (r : (yTup ts).rep K H F v d) :
   ∃ u F1, τ.rep K H F1 u (p d) ∧ (∀ a ∈ F1, a ∈ F) ∧ (∀ {Q : VK}, Q u H → rIxT K v (.int (n : Int)) H Q) ∧ ∀ {σ : L2.St} {ta tb : TE}, Val ta σ H v → Val tb σ H (.int (n : Int)) → Val (tOp (rIxT K) ta tb) σ H u := by
 obtain ⟨a, vs, rfl, s, q⟩ := r
 obtain ⟨u, F1, e, ru, sub⟩ := A q
 have k : ∀ {Q : VK}, Q u H → rIxT K (.ref a) (.int (n : Int)) H Q := fun k => ⟨a, vs, n, u, rfl, rfl, s, atI_nat e, k⟩
 exact ⟨u, F1, ru, sub, k, fun ha hb => val_op ha hb fun Q q => k q⟩
end G
namespace G
open PySem PySem.Spec PyProof.Rows L2
section
variable {K : PySem.W.Frag} {σ σ' : L2.St} {H : Hp} {F G F1 F2 : List Addr} {ta tb te : TE} {v u x y w : V} {i j : Int} {t tu : TT} {b c a : Bool} {α β : Type} {τ : Ty α} {Q : VK} {D : Ends} {t1 t2 : TS}
theorem nn_int : V.int i ≠ .non := fun z => nomatch z
theorem opt_some {d : Option α} {x : α} (r : (yOpt τ).rep K H F v d) (h : d = some x) : τ.rep K H F v x := by subst h; exact r.2
theorem opt_int {d : Option Int} {x : Int} (r : (yOpt yInt).rep K H F v d) (h : d = some x) : F = [] ∧ v = .int x := opt_some r h
theorem opt_dec {d : Option α} (r : (yOpt τ).rep K H F v d) : decide (v = .non) = d.isNone := by
 cases d with
 | none => obtain ⟨_, rfl⟩ := r; rfl
 | some x => exact decide_eq_false r.1
theorem val_isN {d : Option α} (r : (yOpt τ).rep K H F v d) (ha : Val ta σ H v) : Val (tOp rIsN ta (tC .non)) σ H (.bl d.isNone) := val_op ha val_c fun Q q => ⟨rfl, by rw [opt_dec r]; exact q⟩
theorem Dj.app (d1 : Dj F1 G) (d2 : Dj F2 G) : Dj (F1 ++ F2) G := fun a h => (List.mem_append.mp h).elim (d1 a) (d2 a)
theorem app_fresh {H0 : Hp} (n1 : ∀ a ∈ F1, H0 a = none) (n2 : ∀ a ∈ F2, H0 a = none) : ∀ a ∈ F1 ++ F2, H0 a = none := fun a h => (List.mem_append.mp h).elim (n1 a) (n2 a)
theorem nil_fresh {H0 : Hp} : ∀ a ∈ ([] : List Addr), H0 a = none := fun a h => nomatch h
def Fz {α : Type} (τ : Ty α) : Prop := ∀ {K : PySem.W.Frag} {H : Hp} {F : List Addr} {v : V} {d : α}, τ.rep K H F v d → F = []
theorem fz_int : Fz yInt := fun h => h.1
theorem fz_opt {τ : Ty α} (z : Fz τ) : Fz (yOpt τ) := fun {K H F v d} h => by
 cases d with
 | none => exact h.1
 | some x => exact z h.2
def LenS {α : Type} (ts : Tys α) (n : Nat) : Prop := ∀ {K : PySem.W.Frag} {H : Hp} {F : List Addr} {vs : List V} {d : α}, ts.rep K H F vs d → vs.length = n
theorem lens_one {τ : Ty α} : LenS (sOne τ) 1 := fun h => by obtain ⟨_, e, _⟩ := h; rw [e]; rfl
theorem lens_cons {τ : Ty α} {ts : Tys β} {n : Nat} (z : LenS ts n) : LenS (sCons τ ts) (n + 1) := fun h => by
 obtain ⟨_, _, _, _, e, _, _, q⟩ := h
 rw [e, List.length_cons, z q]
theorem val_lenU {ts : Tys α} {d : α} {n : Nat} (l : LenS ts n) (r : (yTup ts).rep K H F v d) (ha : Val ta σ H v) : Val (tCB (rLenQ K) (tCons ta tNil)) σ H (.int (n : Int)) := by
 obtain ⟨p, vs, rfl, s, q⟩ := r
 exact fun Q k => ha _ ⟨p, vs, rfl, .inr s, by rw [l q]; exact k⟩
theorem g_tup2 {β : Type} {τ1 : Ty α} {τ2 : Ty β} {d : α × β} {i1 i2 : Nat} {Q : L2.St → Hp → Prop} (r : (yTup (sCons τ1 (sOne τ2))).rep K H [] v d)
   (k : ∀ u1 u2, τ1.rep K H [] u1 d.1 → τ2.rep K H [] u2 d.2 → Q ((σ.set i1 (some u1)).set i2 (some u2)) H) : gTup K 2 (gCons (gName i1) (gCons (gName i2) gNil)) v σ H Q := by
 obtain ⟨a, vs, rfl, s, v1, ws, F1, F2, rfl, e, r1, v2, rfl, r2⟩ := r
 obtain ⟨rfl, rfl⟩ : F1 = [] ∧ F2 = [] := List.append_eq_nil_iff.mp e.symm
 exact ⟨a, _, rfl, s, rfl, v1, _, rfl, v2, _, rfl, rfl, k v1 v2 r1 r2⟩
end
end G
namespace G
open PySem PySem.Spec PyProof.Rows L2
theorem fn_law {P : Program} {w : World} {K : PySem.W.Frag} {mg : Str → Option Value} {x : Str} {k : Nat} {sp : Sp} {fa : Addr} (hfa : mg x = some (.ref fa)) {p : Str} (c : Cal P w K mg x [p] k sp) :
   ∃ fd : FuncData, (∀ (s : Shared) (v : Value), BindsTo s fd ⟨[v], []⟩ [(p, v)]) ∧ ∀ base : Heap, K.In base → base.Ns mainGlobals mg → FnOk P w K mg base CX0 k fa fd [p] sp := by
 obtain ⟨f, fd, g, _, b, ok⟩ := c.ex
 obtain rfl : fa = f := Value.ref.inj (Option.some.inj (hfa.symm.trans g))
 exact ⟨fd, fun s v => b s [v] rfl, fun base _ _ => ok base⟩
end G
namespace G
open PySem PySem.Spec PyProof.Rows L2
section
variable {K : PySem.W.Frag} {σ σ' : L2.St} {H : Hp} {F F1 F2 : List Addr} {ta tb te : TE} {v u x y w : V} {i j : Int} {t tu tt : TT} {b c a : Bool} {α β : Type} {τ : Ty α} {υ : Ty β} {Q : VK} {D : Ends} {t1 t2 : TS} {g : TG} {ws : List Nat}
def AppG (D : Addr) (N : Hp → Prop) (y : V) (H : Hp) : Prop := ∃ acc, H D = some (.lst acc) ∧ acc.length < sizeLine ∧ N (upd H D (.lst (acc ++ [y])))
def TurnG (g : TG) (tt : TT) (te : TE) (ws : List Nat) (σ : L2.St) (D : Addr) (N : Hp → Prop) (x : V) (H : Hp) : Prop :=
 g x (wipe σ ws) H fun σ2 H2 => wipe σ2 ws = wipe σ ws ∧ tt σ2 H2 fun b H3 => if b = true then te σ2 H3 (AppG D N) else N H3
def CompG (J : It) (g : TG) (tt : TT) (te : TE) (ws : List Nat) (σ : L2.St) (H : Hp) (Q : VK) : Prop := ∀ D, H D = none → ∃ W : Nat → Nat → Hp → Prop, (∃ m, W 0 m (upd H D (.lst []))) ∧ ∀ i m H, W i m H →
 (J.stop i H ∧ Q (.ref D) H) ∨ (J.go i H ∧ ∃ N : Hp → Prop, (∀ H', N H' → ∃ m', m' < m ∧ W (i + 1) m' H') ∧ ∀ x H', J.yld i H x H' → TurnG g tt te ws σ D N x H')
theorem w_lc {wi : TI} (h : wi σ H fun J H1 => CompG J g tt te ws σ H1 Q) : tLc wi g tt te ws σ H Q := h
theorem w_yes {Q : Bool → Hp → Prop} (h : Q true H) : tYes σ H Q := h
theorem empty_lst {p : Addr} (np : H p = none) : (yLst τ).rep K (upd H p (.lst [])) [p] (.ref p) [] := ⟨p, [], rfl, rfl, upd_same, .nil⟩
theorem comp_by {J : It} (n : Nat) (Pv : Addr → Nat → Hp → Prop) (h0 : ∀ D H', H D = none → Chg [] H H' → (yLst τ).rep K H' [D] (.ref D) [] → Pv D 0 H')
   (hs : ∀ D i H', i < n → Pv D i H' → J.go i H' ∧ ∀ x H2, J.yld i H' x H2 → TurnG g tt te ws σ D (Pv D (i + 1)) x H2) (hd : ∀ D H', H D = none → Pv D n H' → J.stop n H' ∧ Q (.ref D) H') : CompG J g tt te ws σ H Q := by
 intro D hD
 refine ⟨fun i m H' => m = n - i ∧ i ≤ n ∧ Pv D i H', ⟨n, by omega, Nat.zero_le _, h0 D _ hD (Chg.lay hD trivial) (empty_lst hD)⟩, ?_⟩
 rintro i m H' ⟨rfl, hi, p⟩
 by_cases hlt : i < n
 · obtain ⟨h1, h2⟩ := hs D i H' hlt p
   exact .inr ⟨h1, Pv D (i + 1), fun H2 p' => ⟨n - (i + 1), by omega, rfl, hlt, p'⟩, h2⟩
 · obtain rfl : i = n := by omega
   exact .inl (hd D H' hD p)
theorem kc_lst {xs : List β} (r : (yLst υ).rep K H F v xs) (Pv : Addr → Nat → Hp → Prop) (h0 : ∀ D H', H D = none → Chg [] H H' → (yLst τ).rep K H' [D] (.ref D) [] → Pv D 0 H') (hl : ∀ D i H', Pv D i H' → (yLst υ).rep K H' F v xs)
   (hs : ∀ D (i : Nat) (x : β) (u : V) H', xs[i]? = some x → υ.rep K H' [] u x → Pv D i H' → TurnG g tt te ws σ D (Pv D (i + 1)) u H') (hd : ∀ D H', H D = none → Pv D xs.length H' → Q (.ref D) H') :
   ∃ a, v = .ref a ∧ (∃ xs, SqL K H a xs) ∧ CompG (Itl K a) g tt te ws σ H Q := by
 obtain ⟨a, vs, e, s, q⟩ := lst_sq r
 refine ⟨a, e, ⟨vs, s⟩, comp_by (K := K) (τ := τ) xs.length Pv h0 (fun D i H' hi p => ?_) (fun D H' hD p => ?_)⟩
 · obtain ⟨a', vs', e', s', q'⟩ := lst_sq (hl D i H' p)
   obtain rfl : a = a' := by rw [e] at e'; exact V.ref.inj e'
   obtain ⟨u, hu, ru⟩ := pr_get q' (List.getElem?_eq_getElem hi)
   refine ⟨⟨vs', u, s', hu⟩, fun x H2 y => ?_⟩
   obtain ⟨rfl, y⟩ := y
   obtain rfl : x = u := Option.some.inj ((y _ s').symm.trans hu)
   exact hs D i _ _ _ (List.getElem?_eq_getElem hi) ru p
 · obtain ⟨a', vs', e', s', q'⟩ := lst_sq (hl D _ H' p)
   obtain rfl : a = a' := by rw [e] at e'; exact V.ref.inj e'
   exact ⟨⟨vs', s', by rw [pr_len q']; exact Nat.le_refl _⟩, hd D H' hD p⟩
theorem kc_rng {lo hi : Int} (Pv : Addr → Nat → Hp → Prop) (h0 : ∀ D H', H D = none → Chg [] H H' → (yLst τ).rep K H' [D] (.ref D) [] → Pv D 0 H')
   (hs : ∀ D (i : Nat) (x : Int) H', (Mi.rng lo hi)[i]? = some x → Pv D i H' → TurnG g tt te ws σ D (Pv D (i + 1)) (.int x) H') (hd : ∀ D H', H D = none → Pv D (Mi.rng lo hi).length H' → Q (.ref D) H') :
   CompG (Itr lo (hi - lo).toNat) g tt te ws σ H Q := by
 refine comp_by (K := K) (τ := τ) (hi - lo).toNat Pv h0 (fun D i H' hi' p => ⟨hi', fun x H2 y => ?_⟩) (fun D H' hD p => ⟨Nat.le_refl _, hd D H' hD (by rw [rng_len]; exact p)⟩)
 obtain ⟨rfl, rfl⟩ := y
 exact hs D i _ _ (rng_at hi') p
theorem kc_rng1 {hi : Int} {xs : List Int} (hg : Mi.rngO 0 hi = some xs) (Pv : Addr → Nat → Hp → Prop) (h0 : ∀ D H', H D = none → Chg [] H H' → (yLst τ).rep K H' [D] (.ref D) [] → Pv D 0 H')
   (hs : ∀ D (i : Nat) (x : Int) H', xs[i]? = some x → Pv D i H' → TurnG g tt te ws σ D (Pv D (i + 1)) (.int x) H') (hd : ∀ D H', H D = none → Pv D xs.length H' → Q (.ref D) H') :
   ∃ j : Int, [V.int hi] = [.int j] ∧ -(2 ^ 62) ≤ j ∧ j < 2 ^ 62 ∧ CompG (Itr 0 j.toNat) g tt te ws σ H Q := by
 obtain ⟨rfl, _, h1, h2⟩ := rngO_some hg
 refine ⟨hi, rfl, by omega, by omega, ?_⟩
 have e : hi.toNat = (hi - 0).toNat := by rw [Int.sub_zero]
 rw [e]
 exact kc_rng (K := K) (τ := τ) Pv h0 hs hd
theorem e_app {D : Addr} {N : Hp → Prop} {xs ys : List α} {d : α} (r : (yLst τ).rep K H [D] (.ref D) xs) (ru : τ.rep K H [] u d) (hm : Mi.app xs d = some ys) (k : ∀ H', Chg [D] H H' → (yLst τ).rep K H' [D] (.ref D) ys → N H') :
   AppG D N u H := by
 obtain ⟨p, vs, e, f, g, q⟩ := r
 obtain rfl : D = p := V.ref.inj e
 unfold Mi.app at hm
 split at hm
 · rename_i hz
   cases hm
   have c : Chg [D] H (upd H D (.lst (vs ++ [u]))) := Chg.wr g (fun z => z)
   exact ⟨vs, g, Nat.lt_of_lt_of_le (by rw [pr_len q]; exact hz) line_big, k _ c ⟨D, _, rfl, rfl, upd_same, pr_app (Paired.mapP q fun _ _ z => Ty.fz z c) (.cons (Ty.fz ru c) .nil)⟩⟩
 · cases hm
def rListQ (K : PySem.W.Frag) : List V → Hp → VK → Prop := fun xs H Q => ∃ p ys, xs = [.ref p] ∧ (SqL K H p ys ∨ SqT K H p ys) ∧ ∀ l, H l = none → Q (.ref l) (upd H l (.lst ys))
theorem cl_list {X : Cx} {K : PySem.W.Frag} (e : X.K = K := by rfl) : CallR X (.type "list") (rListQ K) := by subst e; exact call_list_of
theorem op_in_q {X : Cx} {K : PySem.W.Frag} (e : X.K = K := by rfl) : OpR X (compareOp .In) (rIn K false) := by subst e; exact op_in_seq
theorem op_ni_q {X : Cx} {K : PySem.W.Frag} (e : X.K = K := by rfl) : OpR X (compareOp .NotIn) (rIn K true) := by subst e; exact op_notIn_seq
theorem flat_ints (ns : List Int) : (ns.map V.int).all flatV = true := by
 rw [List.all_eq_true]
 intro x hx
 obtain ⟨n, _, rfl⟩ := List.mem_map.mp hx
 rfl
theorem in_ints (n : Int) : ∀ ns : List Int, inV (.int n) (ns.map V.int) = ns.contains n
 | [] => rfl
 | m :: ns => by
   have ih := in_ints n ns
   unfold inV at ih ⊢
   rw [List.map_cons, List.any_cons, List.contains_cons, ih]
   congr 1
   show (m == n) = (n == m)
   by_cases h : m = n
   · subst h; rfl
   · rw [beq_eq_false_iff_ne.mpr h, beq_eq_false_iff_ne.mpr (Ne.symm h)]
theorem ints_sqL {xs : List Int} (r : (yLst yInt).rep K H F v xs) : ∃ a, v = .ref a ∧ SqL K H a (xs.map V.int) := by
 obtain ⟨a, vs, e, s, q⟩ := lst_sq r
 rw [ints_of q] at s
 exact ⟨a, e, s⟩
theorem w_inL {xs : List Int} (r : (yLst yInt).rep K H F v xs) (k : Q (.bl (xs.contains i)) H) : rIn K false (.int i) v H Q := by
 obtain ⟨a, rfl, s⟩ := ints_sqL r
 exact ⟨a, _, rfl, .inl s, rfl, flat_ints xs, by rw [if_neg Bool.false_ne_true, in_ints]; exact k⟩
theorem w_niL {xs : List Int} (r : (yLst yInt).rep K H F v xs) (k : Q (.bl (!xs.contains i)) H) : rIn K true (.int i) v H Q := by
 obtain ⟨a, rfl, s⟩ := ints_sqL r
 exact ⟨a, _, rfl, .inl s, rfl, flat_ints xs, by rw [if_pos rfl, in_ints]; exact k⟩
theorem val_inL {xs : List Int} (r : (yLst yInt).rep K H F v xs) (ha : Val ta σ H (.int i)) (hb : Val tb σ H v) : Val (tOp (rIn K false) ta tb) σ H (.bl (xs.contains i)) := val_op ha hb fun Q q => w_inL r q
theorem val_niL {xs : List Int} (r : (yLst yInt).rep K H F v xs) (ha : Val ta σ H (.int i)) (hb : Val tb σ H v) : Val (tOp (rIn K true) ta tb) σ H (.bl (!xs.contains i)) := val_op ha hb fun Q q => w_niL r q
end
end G
namespace G
open PySem PySem.Spec PyProof.Rows L2
section
variable {K : PySem.W.Frag} {σ σ' : L2.St} {H : Hp} {F : List Addr} {ta tb te tv : TE} {v u x y w : V} {α β : Type} {τ : Ty α} {Q : VK} {D : Ends} {t1 t2 : TS} {C dx p : Addr} {ns : List Str} {f : Str}
end
end G
namespace G
open PySem PySem.Spec PyProof.Rows L2
section
variable {X : Cx} {K : PySem.W.Frag} {σ : L2.St} {H : Hp} {F : List Addr} {ta te : TE} {v : V} {α : Type} {Q : VK} {C : Addr} {ns : List Str} {m : Str}
end
end G
namespace G
open PySem PySem.Spec PyProof.Rows L2
section
variable {K : PySem.W.Frag} {σ σ' : L2.St} {H : Hp} {F F1 F2 Fu : List Addr} {ta tb te : TE} {v u x y : V} {i j : Int} {t tu tt : TT} {b c a : Bool} {α β : Type} {τ : Ty α} {υ : Ty β} {Q : VK} {D : Ends} {t1 t2 : TS} {g : TG} {ws : List Nat}
theorem cl_sortedL {X : Cx} {K : PySem.W.Frag} (e : X.K = K := by rfl) : CallR X (.builtin "sorted") (rSortedI K) := by subst e; exact cr_sortedI
theorem sortI_perm (xs : List Int) : (Mi.sortI xs).Perm xs := List.mergeSort_perm _ _
theorem sortI_sorted (xs : List Int) : (Mi.sortI xs).Pairwise (· ≤ ·) := by
 have h := List.pairwise_mergeSort (le := fun a b : Int => decide (a ≤ b)) (fun a b c h1 h2 => by simp at *; omega) (fun a b => by simp; omega) xs
 exact List.Pairwise.imp (fun h => by simpa using h) h
theorem sorted_unique : ∀ {xs ys : List Int}, xs.Perm ys → xs.Pairwise (· ≤ ·) → ys.Pairwise (· ≤ ·) → xs = ys
 | [], ys, p, _, _ => (List.Perm.nil_eq p)
 | x :: xs, [], p, _, _ => absurd p.length_eq (by simp)
 | x :: xs, y :: ys, p, h1, h2 => by
   have hx := List.pairwise_cons.mp h1
   have hy := List.pairwise_cons.mp h2
   have e : x = y := by
     have a1 : y ∈ x :: xs := p.mem_iff.mpr (List.mem_cons_self ..)
     have a2 : x ∈ y :: ys := p.mem_iff.mp (List.mem_cons_self ..)
     rcases List.mem_cons.mp a1 with r | r
     · exact r.symm
     · rcases List.mem_cons.mp a2 with q | q
       · exact q
       · have := hx.1 y r
         have := hy.1 x q
         omega
   subst e
   rw [sorted_unique (List.Perm.cons_inv p) hx.2 hy.2]
theorem w_sortedL {xs : List Int} (r : (yLst yInt).rep K H F v xs) (k : ∀ p H', H p = none → Chg [] H H' → (yLst yInt).rep K H' [p] (.ref p) (Mi.sortI xs) → Q (.ref p) H') : rSortedI K [v] H Q := by
 obtain ⟨p, rfl, s⟩ := ints_sqL r
 refine ⟨p, xs, rfl, s, fun ns q pm so nq => ?_⟩
 rw [sorted_unique (pm.trans (sortI_perm xs).symm) so (sortI_sorted xs)]
 exact k q _ nq (Chg.lay nq trivial) ⟨q, _, rfl, rfl, upd_same, ints_mk _⟩
def ySet (w : World) : Ty (List Int) where
 rep K H F v xs := ∃ a, v = .ref a ∧ F = [a] ∧ H a = some (SetO w a (fun i => xs.contains i) xs.length)
 keep {K H H' F v xs} h k := by
   obtain ⟨a, e, rfl, g⟩ := h
   exact ⟨a, e, rfl, k a _ g (.inl (List.mem_singleton.mpr rfl))⟩
 dom {K H F v xs} h b m := by
   obtain ⟨a, e, rfl, g⟩ := h
   rw [List.mem_singleton] at m; subst m
   exact ⟨_, g, fun z => z⟩
theorem set_nc {w : World} {H H' : Hp} {a : Addr} {S : Int → Bool} {n : Nat} : NCo H H' a (SetO w a S n) := fun h ob r e v z => by
 obtain ⟨o, es, ep, t, ho, _, hd, _⟩ := r
 rw [e] at ho; cases ho
 rw [z] at hd; cases hd
theorem op_in_s {X : Cx} {w : World} (e : X.w = w := by rfl) : OpR X (compareOp .In) (rSIn w) := by subst e; exact or_sin
theorem w_inS {w : World} {xs : List Int} (r : (ySet w).rep K H F v xs) (k : Q (.bl (xs.contains i)) H) : rSIn w (.int i) v H Q := by
 obtain ⟨p, rfl, rfl, g⟩ := r
 exact ⟨i, p, _, _, rfl, rfl, g, k⟩
theorem val_inS {w : World} {xs : List Int} (r : (ySet w).rep K H F v xs) (ha : Val ta σ H (.int i)) (hb : Val tb σ H v) : Val (tOp (rSIn w) ta tb) σ H (.bl (xs.contains i)) := val_op ha hb fun Q q => w_inS r q
theorem m_sadd {w : World} {xs ys : List Int} (r : (ySet w).rep K H F v xs) (hm : Mi.sadd xs i = some ys) (k : ∀ H', Chg F H H' → (ySet w).rep K H' F v ys → Q .non H') : rSAdd w v [.int i] H Q := by
 obtain ⟨p, rfl, rfl, g⟩ := r
 unfold Mi.sadd at hm
 split at hm
 · rename_i hz
   obtain rfl := Option.some.inj hm
   refine ⟨p, i, _, _, rfl, rfl, g, by show xs.length + 1 < 4096; omega, ?_⟩
   refine k _ (Chg.wr g (fun z => z) (hn := set_nc)) ⟨p, rfl, rfl, ?_⟩
   rw [upd_same]
   congr 1
   by_cases hc : xs.contains i = true
   · have e1 : (fun j => xs.contains j || decide (j = i)) = fun j => xs.contains j := by
       funext j
       by_cases hj : j = i
       · subst hj; rw [hc]; rfl
       · rw [decide_eq_false hj, Bool.or_false]
     rw [if_pos hc, if_pos hc]
     show SetO w p (fun j => xs.contains j || decide (j = i)) _ = _
     rw [e1]
   · rw [if_neg hc, if_neg hc]
     have e1 : (fun j => xs.contains j || decide (j = i)) = fun j => (xs ++ [i]).contains j := by
       funext j
       rw [List.contains_eq_mem, List.contains_eq_mem]
       by_cases hj : j = i
       · subst hj; simp
       · simp [hj]
     show SetO w p (fun j => xs.contains j || decide (j = i)) _ = _
     rw [e1, List.length_append]
     rfl
 · cases hm
end
end G
namespace G
open PySem PySem.Spec PyProof.Rows L2
section
variable {K : PySem.W.Frag} {σ σ' : L2.St} {H : Hp} {F F1 F2 Fu : List Addr} {ta tb te : TE} {v u x y : V} {i j : Int} {t tu tt : TT} {b c a : Bool} {α β : Type} {τ : Ty α} {υ : Ty β} {Q : VK} {D : Ends} {t1 t2 : TS} {g : TG} {ws : List Nat}
theorem Ty.dm {d : α} (r : τ.rep K H F v d) : ∀ b ∈ F, ∃ o, H b = some o ∧ ¬ Froz o := τ.dom r
end
structure Dat {α : Type} (τ : Ty α) (n : Nat) where
 f : α → PyData
 dec : DecidableEq α
 dp : ∀ {K : PySem.W.Frag} {H : Hp} {F : List Addr} {v : V} {d : α}, τ.rep K H F v d → Dp K H v (f d)
 lay : ∀ d, (f d).canLay0 = true
 dpt : ∀ d, (f d).depth ≤ n
 eqv : ∀ d e, PyData.eqv (f d) (f e) = decide (d = e)
theorem beq_dec {α : Type} [DecidableEq α] [BEq α] [LawfulBEq α] (a b : α) : (a == b) = decide (a = b) := by
 by_cases h : a = b
 · subst h; simp
 · rw [decide_eq_false h]; simpa using h
def dat_int : Dat yInt 0 where
 f := .int
 dec := inferInstance
 dp := fun h => by obtain ⟨_, rfl⟩ := h; exact .int _
 lay := fun d => by simp [PyData.canLay0]
 dpt := fun d => by simp [PyData.depth]
 eqv := fun d e => by simp only [PyData.eqv]; exact beq_dec d e
section
variable {α β : Type} {τ : Ty α} {n m : Nat}
theorem dpAll {K : PySem.W.Frag} {H : Hp} {R : V → α → Prop} {f : α → PyData} (h : ∀ u x, R u x → Dp K H u (f x)) : ∀ {vs : List V} {xs : List α}, Paired R vs xs → DpAll K H vs (xs.map f)
 | _, _, .nil => .nil
 | _, _, .cons r t => .cons (h _ _ r) (dpAll h t)
theorem layAll {f : α → PyData} (h : ∀ d, (f d).canLay0 = true) : ∀ xs : List α, PyData.canLayAll0 (xs.map f) = true
 | [] => by simp [PyData.canLayAll0]
 | x :: xs => by simp [PyData.canLayAll0, h x, layAll h xs]
theorem dptAll {f : α → PyData} (h : ∀ d, (f d).depth ≤ n) : ∀ xs : List α, PyData.depthAll (xs.map f) ≤ n
 | [] => by simp [PyData.depthAll]
 | x :: xs => by
   simp only [List.map_cons, PyData.depthAll]
   exact Nat.max_le.mpr ⟨h x, dptAll h xs⟩
theorem eqvAllL [DecidableEq α] {f : α → PyData} (h : ∀ d e, PyData.eqv (f d) (f e) = decide (d = e)) : ∀ xs ys : List α, PyData.eqvAll (xs.map f) (ys.map f) = decide (xs = ys)
 | [], [] => by simp [PyData.eqvAll]
 | [], y :: ys => by simp [PyData.eqvAll]
 | x :: xs, [] => by simp [PyData.eqvAll]
 | x :: xs, y :: ys => by
   simp only [List.map_cons, PyData.eqvAll, h x y, eqvAllL h xs ys]
   by_cases h1 : x = y
   · by_cases h2 : xs = ys
     · simp [h1, h2]
     · simp [h2]
   · simp [h1]
def dat_lst (d : Dat τ n) : Dat (yLst τ) (n + 1) where
 f := fun xs => .list (xs.map d.f)
 dec := @instDecidableEqList _ d.dec
 dp := fun h => by
   obtain ⟨a, vs, rfl, s, q⟩ := lst_sq h
   exact .lst s (dpAll (fun u x z => d.dp z) q)
 lay := fun xs => by simp only [PyData.canLay0]; exact layAll d.lay xs
 dpt := fun xs => by simp only [PyData.depth]; exact Nat.succ_le_succ (dptAll d.dpt xs)
 eqv := fun xs ys => by simp only [PyData.eqv]; exact @eqvAllL _ d.dec _ d.eqv xs ys
end
structure Sat {α : Type} (ts : Tys α) (n : Nat) where
 f : α → List PyData
 dec : DecidableEq α
 dp : ∀ {K : PySem.W.Frag} {H : Hp} {F : List Addr} {vs : List V} {d : α}, ts.rep K H F vs d → DpAll K H vs (f d)
 lay : ∀ d, PyData.canLayAll0 (f d) = true
 dpt : ∀ d, PyData.depthAll (f d) ≤ n
 eqv : ∀ d e, PyData.eqvAll (f d) (f e) = decide (d = e)
section
variable {α β : Type} {τ : Ty α} {ts : Tys β} {n m : Nat}
def sat_one (d : Dat τ n) : Sat (sOne τ) n where
 f := fun x => [d.f x]
 dec := d.dec
 dp := fun h => by obtain ⟨v, rfl, r⟩ := h; exact .cons (d.dp r) .nil
 lay := fun x => by simp [PyData.canLayAll0, d.lay x]
 dpt := fun x => by simp only [PyData.depthAll]; exact Nat.max_le.mpr ⟨d.dpt x, Nat.zero_le _⟩
 eqv := fun x y => by simp [PyData.eqvAll, d.eqv x y]
def sat_cons (d : Dat τ n) (s : Sat ts m) : Sat (sCons τ ts) (max n m) where
 f := fun x => d.f x.1 :: s.f x.2
 dec := @instDecidableEqProd _ _ d.dec s.dec
 dp := fun h => by obtain ⟨v, ws, F1, F2, rfl, _, r, q⟩ := h; exact .cons (d.dp r) (s.dp q)
 lay := fun x => by simp [PyData.canLayAll0, d.lay x.1, s.lay x.2]
 dpt := fun x => by
   simp only [PyData.depthAll]
   have h1 := d.dpt x.1
   have h2 := s.dpt x.2
   omega
 eqv := fun x y => by
   obtain ⟨x1, x2⟩ := x
   obtain ⟨y1, y2⟩ := y
   letI := d.dec
   letI := s.dec
   simp only [PyData.eqvAll, d.eqv x1 y1, s.eqv x2 y2]
   by_cases h1 : x1 = y1
   · by_cases h2 : x2 = y2
     · subst h1 h2; simp
     · have : ¬ ((x1, x2) = (y1, y2)) := fun e => h2 (Prod.mk.inj e).2
       simp only [h2, decide_false, Bool.and_false]
       exact (decide_eq_false this).symm
   · have : ¬ ((x1, x2) = (y1, y2)) := fun e => h1 (Prod.mk.inj e).1
     simp only [h1, decide_false, Bool.false_and]
     exact (decide_eq_false this).symm
def dat_tup (s : Sat ts m) : Dat (yTup ts) (m + 1) where
 f := fun x => .tuple (s.f x)
 dec := s.dec
 dp := fun h => by obtain ⟨a, vs, rfl, sq, q⟩ := h; exact .tup sq (s.dp q)
 lay := fun x => by simp only [PyData.canLay0]; exact s.lay x
 dpt := fun x => by simp only [PyData.depth]; exact Nat.succ_le_succ (s.dpt x)
 eqv := fun x y => by simp only [PyData.eqv]; exact s.eqv x y
end
section
variable {X : Cx} {K : PySem.W.Frag} {H : Hp} {F1 F2 : List Addr} {v u : V} {α : Type} {τ : Ty α} {Q : VK} {n : Nat} {x y : α}
theorem op_ne_d {K : PySem.W.Frag} (hu : X.A.units + 64 < cLine) (e : X.K = K := by rfl) : OpR X (compareOp .NotEq) (rNeD K) := by subst e; exact op_neD hu
theorem Dat.shaped (d : Dat τ n) (hn : n ≤ 64) (x : α) : SeqAt.shaped (d.f x) = true := by
 unfold SeqAt.shaped
 rw [d.lay x, decide_eq_true (Nat.le_trans (d.dpt x) hn)]
 rfl
end
end G
namespace G
open PySem PySem.Spec PyProof.Rows L2
section
variable {K : PySem.W.Frag} {σ σ' : L2.St} {H : Hp} {F F1 F2 Fu : List Addr} {ta tb te : TE} {v u x y : V} {i j : Int} {α β : Type} {τ : Ty α} {υ : Ty β} {Q : VK} {D : Ends} {t1 t2 : TS} {g : TG} {ws : List Nat}
end
end G
namespace G
end G
namespace PySem
open Sem (wp)
section
variable {prog : Program} {w : World} {A : Around} {E : Value → Shared → Prop} {s : Shared}
end
end PySem
namespace L2
open PySem PySem.Spec PyProof.Rows
end L2
namespace G
open PySem PySem.Spec PyProof.Rows L2
section
variable {K : PySem.W.Frag} {σ σ' : L2.St} {H : Hp} {F F1 F2 Fu : List Addr} {ta tb te : TE} {v u x y : V} {i j : Int} {α β : Type} {τ : Ty α} {υ : Ty β} {Q : VK} {D : Ends} {t1 t2 : TS} {g : TG} {ws : List Nat}
end
end G
namespace G
open PySem PySem.Spec PyProof.Rows L2
section
variable {K : PySem.W.Frag} {σ σ' : L2.St} {H : Hp} {F F1 F2 Fu : List Addr} {ta tb te : TE} {v u x y : V} {i j : Int} {α β : Type} {τ : Ty α} {υ : Ty β} {Q : VK} {D : Ends} {t1 t2 : TS} {g : TG} {ws : List Nat}
end
end G
namespace G
open PySem PySem.Spec PyProof.Rows L2
end G
namespace G
open PySem PySem.Spec PyProof.Rows L2
section
variable {X : Cx} {K : PySem.W.Frag} {σ σ' : L2.St} {H : Hp} {F F1 F2 Fu : List Addr} {ta tb te to : TE} {v u x y : V} {i j : Int} {α β : Type} {τ : Ty α} {υ : Ty β} {Q : VK} {D : Ends} {g : TG} {ws : List Nat} {a b c : List Nat} {t tu tt : TT}
theorem val_isiO {n m : String} {b : Bool} {d : Option α} (ty : ∀ {F x}, τ.rep K H F v x → TyX K H v (.type n)) (r : (yOpt τ).rep K H F v d) (ha : Val ta σ H v) (h1 : kitB n m = some b) (h2 : kitB "NoneType" m = some false) : Val (tCB (rIsi K) (tCons ta (tCons (tC (.ty m)) tNil))) σ H (.bl (d.isSome && b)) := by
 cases d with
 | none =>
   obtain ⟨_, rfl⟩ := r
   exact val_isi ha ty_non h2
 | some x =>
   have := val_isi ha (ty r.2) h1
   rw [show ((some x).isSome && b) = b by cases b <;> rfl]
   exact this
theorem tyr_int {x : Int} (r : yInt.rep K H F v x) : TyX K H v (.type "int") := by obtain ⟨_, rfl⟩ := r; exact ty_int
end
structure DatO {α : Type} (τ : Ty α) (n : Nat) where
 f : α → PyData
 ok : α → Bool
 dec : DecidableEq α
 dp : ∀ {K : PySem.W.Frag} {H : Hp} {F : List Addr} {v : V} {d : α}, τ.rep K H F v d → Dp K H v (f d)
 lay : ∀ d, ok d = true → (f d).canLay0 = true
 dpt : ∀ d, (f d).depth ≤ n
 eqv : ∀ d e, PyData.eqv (f d) (f e) = decide (d = e)
def Dat.o {α : Type} {τ : Ty α} {n : Nat} (d : Dat τ n) : DatO τ n := ⟨d.f, fun _ => true, d.dec, d.dp, fun x _ => d.lay x, d.dpt, d.eqv⟩
section
variable {α β : Type} {τ : Ty α} {n m : Nat}
end
section
variable {α β : Type} {τ : Ty α} {ts : Tys β} {n m : Nat}
theorem DatO.shaped (d : DatO τ n) (hn : n ≤ 64) (x : α) (h : d.ok x = true) : SeqAt.shaped (d.f x) = true := by
 unfold SeqAt.shaped
 rw [d.lay x h, decide_eq_true (Nat.le_trans (d.dpt x) hn)]
 rfl
variable {K : PySem.W.Frag} {H : Hp} {F1 F2 : List Addr} {v u : V} {Q : VK} {x y : α}
end
end G
namespace G
open PySem PySem.Spec PyProof.Rows L2
inductive Par3 {α : Type} (R : V → List Addr → α → Prop) : List V → List (List Addr) → List α → Prop
 | nil : Par3 R [] [] []
 | cons {u : V} {Fi : List Addr} {x : α} {vs : List V} {Fs : List (List Addr)} {xs : List α} : R u Fi x → Par3 R vs Fs xs → Par3 R (u :: vs) (Fi :: Fs) (x :: xs)
theorem Par3.mapP {α : Type} {R S : V → List Addr → α → Prop} : ∀ {vs Fs} {xs : List α}, Par3 R vs Fs xs → (∀ u Fi x, Fi ∈ Fs → R u Fi x → S u Fi x) → Par3 S vs Fs xs
 | _, _, _, .nil, _ => .nil
 | _, _, _, .cons r t, h => .cons (h _ _ _ (List.mem_cons_self ..) r) (Par3.mapP t fun u Fi x m => h u Fi x (List.mem_cons_of_mem _ m))
theorem Par3.len {α : Type} {R : V → List Addr → α → Prop} : ∀ {vs Fs} {xs : List α}, Par3 R vs Fs xs → vs.length = xs.length ∧ Fs.length = xs.length
 | _, _, _, .nil => ⟨rfl, rfl⟩
 | _, _, _, .cons r t => by
   have := Par3.len t
   simp [this.1, this.2]
theorem Par3.get {α : Type} {R : V → List Addr → α → Prop} : ∀ {vs Fs} {xs : List α} (_ : Par3 R vs Fs xs) {j : Nat} {x : α}, xs[j]? = some x → ∃ u Fi, vs[j]? = some u ∧ Fs[j]? = some Fi ∧ R u Fi x
 | _, _, _, .nil, j, x, h => by simp at h
 | _, _, _, .cons (u := u) (Fi := Fi) r t, 0, x, h => by
   obtain rfl := Option.some.inj h
   exact ⟨u, Fi, rfl, rfl, r⟩
 | _, _, _, .cons r t, j + 1, x, h => Par3.get t (j := j) h
theorem Par3.pr {α : Type} {R : V → List Addr → α → Prop} {S : V → α → Prop} : ∀ {vs Fs} {xs : List α}, Par3 R vs Fs xs → (∀ u Fi x, Fi ∈ Fs → R u Fi x → S u x) → Paired S vs xs
 | _, _, _, .nil, _ => .nil
 | _, _, _, .cons r t, h => .cons (h _ _ _ (List.mem_cons_self ..) r) (Par3.pr t fun u Fi x m => h u Fi x (List.mem_cons_of_mem _ m))
theorem Par3.setAt {α : Type} {R S : V → List Addr → α → Prop} : ∀ {vs Fs} {xs : List α} (_ : Par3 R vs Fs xs) {j : Nat} {u : V} {Fi : List Addr} {y : α}, vs[j]? = some u → Fs[j]? = some Fi → S u Fi y → (∀ (k : Nat) u' Fk x, k ≠ j → Fs[k]? = some Fk → R u' Fk x → S u' Fk x) → Par3 S vs Fs (xs.set j y)
 | _, _, _, .nil, j, u, Fi, y, h, _, _, _ => by simp at h
 | _, _, _, .cons r t, 0, u, Fi, y, h1, h2, hs, ho => by
   obtain rfl := Option.some.inj h1
   obtain rfl := Option.some.inj h2
   refine .cons hs (Par3.mapP' t fun k u' Fk x hk hr => ho (k + 1) u' Fk x (by omega) hk hr)
 | _, _, _, .cons (u := u0) (Fi := F0) r t, j + 1, u, Fi, y, h1, h2, hs, ho => .cons (ho 0 _ _ _ (by omega) rfl r) (Par3.setAt t (j := j) h1 h2 hs fun k u' Fk x hk hf hr => ho (k + 1) u' Fk x (by omega) hf hr)
where
 Par3.mapP' {α : Type} {R S : V → List Addr → α → Prop} : ∀ {vs Fs} {xs : List α}, Par3 R vs Fs xs → (∀ (k : Nat) u Fk x, Fs[k]? = some Fk → R u Fk x → S u Fk x) → Par3 S vs Fs xs
 | _, _, _, .nil, _ => .nil
 | _, _, _, .cons r t, h => .cons (h 0 _ _ _ rfl r) (Par3.mapP' t fun k u Fk x hk => h (k + 1) u Fk x hk)
section
variable {K : PySem.W.Frag} {σ σ' : L2.St} {H : Hp} {F F1 F2 Fu : List Addr} {ta tb te : TE} {v u x y : V} {i j : Int} {α β : Type} {τ : Ty α} {υ : Ty β} {Q : VK}
theorem lst_nd {xs : List α} (r : (yLst τ).rep K H F v xs) : F.Nodup := by
 obtain ⟨a, vs, _, rfl, _⟩ := r
 exact List.nodup_cons.mpr ⟨List.not_mem_nil, List.nodup_nil⟩
end
end G
namespace L2
open PySem PySem.Spec PyProof.Rows
def MaskB (m : Nat) : Prop := MaskOk m ∨ m = 511
def orbB : Nat → Nat → Nat → Nat
 | 0, _, acc => acc
 | n + 1, x, acc => orbB n ((x * 5 + 1) % 512) (acc ||| 2 ^ x)
theorem lcgI_turn (m : Nat) : ∀ (k x : Nat), lcgI m ((x * 5 + 1) % (m + 1)) k = lcgI m x (k + 1)
 | 0, _ => rfl
 | k + 1, x => by
   have ih := lcgI_turn m k x
   show (lcgI m ((x * 5 + 1) % (m + 1)) k * 5 + 1) % (m + 1) = (lcgI m x (k + 1) * 5 + 1) % (m + 1)
   rw [ih]
theorem orb_met : ∀ (n x acc j : Nat), (orbB n x acc).testBit j = true → acc.testBit j = true ∨ ∃ k, k < n ∧ lcgI 511 x k = j
 | 0, _, _, _, h => .inl h
 | n + 1, x, acc, j, h => by
   rcases orb_met n _ _ j h with c | ⟨k, hk, e⟩
   · rw [Nat.testBit_or, Nat.testBit_two_pow, Bool.or_eq_true, decide_eq_true_iff] at c
     rcases c with c | c
     · exact .inl c
     · exact .inr ⟨0, Nat.succ_pos n, c⟩
   · exact .inr ⟨k + 1, Nat.succ_lt_succ hk, by rw [← lcgI_turn]; exact e⟩
theorem orb_whole : orbB 512 0 0 = 2 ^ 512 - 1 := by decide +kernel
theorem orb_back : lcgI 511 0 512 = 0 := by decide +kernel
theorem lcgI_app (m x a : Nat) : ∀ k, lcgI m (lcgI m x a) k = lcgI m x (a + k)
 | 0 => rfl
 | k + 1 => by
   show (lcgI m (lcgI m x a) k * 5 + 1) % (m + 1) = (lcgI m x (a + k) * 5 + 1) % (m + 1)
   rw [lcgI_app m x a k]
theorem from_0 {j : Nat} (hj : j ≤ 511) : ∃ k, k < 512 ∧ lcgI 511 0 k = j := by
 have h : (orbB 512 0 0).testBit j = true := by
   rw [orb_whole, Nat.testBit_two_pow_sub_one]
   exact decide_eq_true (by omega)
 rcases orb_met 512 0 0 j h with c | c
 · rw [Nat.zero_testBit] at c; cases c
 · exact c
theorem round512 {i j : Nat} (hi : i ≤ 511) (hj : j ≤ 511) : ∃ k, k ≤ 511 ∧ lcgI 511 i k = j := by
 obtain ⟨a, a1, ea⟩ := from_0 hi
 obtain ⟨b, b1, eb⟩ := from_0 hj
 rw [← ea]
 by_cases c : a ≤ b
 · exact ⟨b - a, by omega, by rw [lcgI_app, show a + (b - a) = b by omega]; exact eb⟩
 · refine ⟨512 + b - a, by omega, ?_⟩
   rw [lcgI_app, show a + (512 + b - a) = 512 + b by omega, ← lcgI_app, orb_back]
   exact eb
theorem meetB {m : Nat} (hm : MaskB m) (h : Int) {j : Nat} (hj : j ≤ m) : ∃ n, n ≤ m + 12 ∧ runI m (SetTable.bits h) n = j := by
 rcases hm with c | c
 · exact run_meets c h hj
 · subst c
   obtain ⟨k, k1, e⟩ := round512 (runI_le 511 (SetTable.bits h) 12) hj
   exact ⟨12 + k, by omega, by rw [runI_tail (bits_lt h)]; exact e⟩
structure TabB (t : SetTable) (hs : List Int) : Prop where
 ris : Ris t.place.toList
 dm : t.dummies = #[]
 sz : t.place.size = hs.length
 mok : MaskB t.mask
 bd : ∀ x ∈ t.place.toList, x ≤ t.mask
 met : ∀ (i : Nat) (h : Int) (j : Nat), hs[i]? = some h → t.place.toList[i]? = some j → ∃ k, way t.mask h k = j ∧ ∀ c, c < k → way t.mask h c ∈ t.place.toList
theorem TabB.of {t : SetTable} {hs : List Int} (T : TabOk t hs) : TabB t hs := ⟨T.ris, T.dm, T.sz, .inl T.mok, T.bd, T.reach⟩
theorem TabB.ok {t : SetTable} {hs : List Int} (T : TabB t hs) (h : MaskOk t.mask) : TabOk t hs := ⟨T.ris, T.dm, T.sz, h, T.bd, T.met⟩
section
variable {t : SetTable} {hs : List Int} (T : TabB t hs)
include T
end
end L2
namespace L2
open PySem PySem.Spec PyProof.Rows
section
variable {P : Program} {w : World} {A : Around} {E : Value → Shared → Prop} {s : Shared} {a : Addr} {L : List (Addr × List Int)} {es : Array (Int × Value)} {ep : Nat} {t : SetTable}
structure SetB (P : Program) (w : World) (h : Heap) (a : Addr) (L : List (Addr × List Int)) (es : Array (Int × Value)) (ep : Nat) (t : SetTable) : Prop where
 obj : ∃ o, h.get? a = some o ∧ o.ExactSet ∧ o.data = .set es ep t
 rws : es.toList = rowsOf P w L
 tb : TabB t (L.map fun p => thash P w p.2)
 ndp : (L.map (·.2)).Nodup
 tps : ∀ p ∈ L, IsT P w h p.2 p.1
 pln : t.plain = true
 ld : w.params.followText "set-order" = true ∨ t.led = true
 rm : L.length * 5 < t.mask * 3
theorem SetB.of {h : Heap} (R : SetTR P w h a L es ep t) : SetB P w h a L es ep t := ⟨R.ob, R.rows, .of R.tab, R.nd, R.tup, R.plain, R.led, R.room⟩
theorem SetB.sz {h : Heap} (R : SetB P w h a L es ep t) : es.size = L.length := by
 have z := congrArg List.length R.rws
 simpa [rowsOf] using z
end
end L2
namespace L2
open PySem PySem.Spec PyProof.Rows
structure SetB0 (P : Program) (w : World) (h : Heap) (a : Addr) (L : List (Addr × List Int)) : Prop where
 has : ∃ (es : Array (Int × Value)) (ep : Nat) (t : SetTable), (∃ o, h.get? a = some o ∧ o.ExactSet ∧ o.data = .set es ep t) ∧ es.toList = rowsOf P w L ∧ TabB t (L.map fun p => thash P w p.2) ∧ (L.map (·.2)).Nodup ∧ t.plain = true ∧
   (w.params.followText "set-order" = true ∨ t.led = true) ∧ L.length * 5 < t.mask * 3
section
variable {P : Program} {w : World} {h : Heap} {a : Addr} {L : List (Addr × List Int)} {es : Array (Int × Value)} {ep : Nat} {t : SetTable}
theorem SetB.bare (R : SetB P w h a L es ep t) : SetB0 P w h a L := ⟨es, ep, t, R.obj, R.rws, R.tb, R.ndp, R.pln, R.ld, R.rm⟩
theorem SetB0.whole (R : SetB0 P w h a L) (ht : ∀ p ∈ L, IsT P w h p.2 p.1) : ∃ es ep t, SetB P w h a L es ep t := by
 obtain ⟨es, ep, t, x1, x2, x3, x4, x5, x6, x7⟩ := R.has
 exact ⟨es, ep, t, x1, x2, x3, x4, ht, x5, x6, x7⟩
end
section
variable {X : Cx}
variable {o e : Expr} {es : List Expr} {to : TE} {t : TA} {apos cpos : Pos}
end
end L2
namespace L2
open PySem PySem.Spec PyProof.Rows
section
variable {X : Cx} {pins : List (Addr × Obj)} {σ : St} {H : Hp} {s : Shared}
end
end L2
namespace G
open PySem PySem.Spec PyProof.Rows L2
section
variable {X : Cx} {P : Program} {w : World} {K : PySem.W.Frag} {σ σ' : L2.St} {H : Hp} {F F1 F2 Fu : List Addr} {ta tb te to : TE} {v u x y : V} {i j : Int} {Q : VK}
end
end G
namespace G
open PySem PySem.Spec PyProof.Rows L2
theorem pg_tupk {X : Cx} {K : PySem.W.Frag} {es : List Expr} {k : Nat} {t : TGs} {n : Nat} {pos : Pos} (hc : X.calm = true) (h : PGs X es t) (e : X.K = K := by rfl)
 (hn : (assignEach es X.env).length = n := by rfl) (hst : (assignEach es X.env).findIdx? (·.1) = none := by rfl) : PG X (.Tuple es k pos) (gTup K n t) := by subst e; exact pg_tup hc h hn hst
theorem st_eqT {σ σ' : L2.St} {H : Hp} {t : TT} {Q : Bool → Hp → Prop} (e : σ = σ') (h : t σ' H Q) : t σ H Q := e ▸ h
end G
namespace G
open PySem PySem.Spec PyProof.Rows L2
section
variable {K : PySem.W.Frag} {σ σ' : L2.St} {H : Hp} {F F1 F2 Fu : List Addr} {ta tb tc te : TE} {tA : TT} {v u x y : V} {i j k : Int} {α β : Type} {τ : Ty α} {υ : Ty β} {Q : VK} {c : Bool}
theorem val_chainI {p q : Int → Int → Bool} (ha : Val ta σ H (.int i)) (hb : Val tb σ H (.int j)) (hc : Val tc σ H (.int k)) : Val (tChain (rI0 fun i j => .bl (p i j)) (rI0 fun i j => .bl (q i j)) ta tb tc) σ H (.bl (p i j && q j k)) := fun Q z => by
 refine ha _ (hb _ ⟨i, j, rfl, rfl, p i j, rfl, ?_⟩)
 cases e : p i j with
 | true =>
   rw [if_pos rfl]
   refine hc _ ⟨j, k, rfl, rfl, ?_⟩
   rw [e, Bool.true_and] at z; exact z
 | false =>
   rw [if_neg Bool.false_ne_true]
   rw [e, Bool.false_and] at z; exact z
end
end G
namespace G
open PySem PySem.Spec PyProof.Rows L2
section
variable {X : Cx} {K : PySem.W.Frag} {σ σ' : L2.St} {H : Hp} {F F1 F2 Fu : List Addr} {ta tb te : TE} {v u x y : V} {Q : VK} {b c : Bool}
end
end G
namespace G
open PySem PySem.Spec PyProof.Rows L2
section
variable {K : PySem.W.Frag} {σ σ' : L2.St} {H : Hp} {F F1 F2 Fu G : List Addr} {ta tb te : TE} {v u x y : V} {i j : Int} {α β : Type} {τ : Ty α} {υ : Ty β} {ts : Tys α} {Q : VK} {D : Ends} {nx : L2.St → Hp → Prop}
end
end G
namespace L2
open PySem PySem.Spec PyProof.Rows
section
variable {prog : Program} {w : World} {A : Around} {E : Value → Shared → Prop} {s : Shared}
end
section
variable {X : Cx}
end
end L2
namespace Mi
theorem foldmax (xs : List Int) : ∀ a : Int, (xs.foldl max a = a ∨ xs.foldl max a ∈ xs) ∧ a ≤ xs.foldl max a ∧ ∀ y ∈ xs, y ≤ xs.foldl max a := by
 induction xs with
 | nil => intro a; exact ⟨.inl rfl, Int.le_refl _, fun y h => nomatch h⟩
 | cons x xs ih =>
   intro a
   obtain ⟨h1, h2, h3⟩ := ih (max a x)
   show (xs.foldl max (max a x) = a ∨ _) ∧ a ≤ xs.foldl max (max a x) ∧ _
   refine ⟨?_, by omega, fun y hy => ?_⟩
   · rcases h1 with h1 | h1
     · by_cases hax : x ≤ a
       · exact .inl (by rw [h1]; omega)
       · refine .inr (List.mem_cons.mpr (.inl ?_)); show xs.foldl max (max a x) = x; rw [h1]; omega
     · exact .inr (List.mem_cons_of_mem _ h1)
   · show y ≤ xs.foldl max (max a x)
     rcases List.mem_cons.mp hy with rfl | hy
     · omega
     · exact h3 y hy
theorem lMax_spec {xs : List Int} {m : Int} (h : lMax xs = some m) : 0 < xs.length ∧ m ∈ xs ∧ ∀ y ∈ xs, y ≤ m := by
 cases xs with
 | nil => cases h
 | cons x xs =>
   obtain rfl : (x :: xs).foldl max x = m := Option.some.inj h
   obtain ⟨h1, h2, h3⟩ := foldmax (x :: xs) x
   refine ⟨Nat.succ_pos _, ?_, h3⟩
   rcases h1 with h1 | h1
   · rw [h1]; exact List.mem_cons_self ..
   · exact h1
end Mi
namespace G
open PySem PySem.Spec PyProof.Rows L2
section
variable {X : Cx} {K : PySem.W.Frag} {σ σ' : L2.St} {H : Hp} {F : List Addr} {v : V} {Q : VK} {m : Int}
theorem cl_maxL {K : PySem.W.Frag} (hc : X.calm = true) (e : X.K = K := by rfl) : CallR X (.builtin "max") (rMax K) := by subst e; exact cr_max hc
theorem w_maxL {xs : List Int} (r : (yLst yInt).rep K H F v xs) (h : Mi.lMax xs = some m) (k : Q (.int m) H) : rMax K [v] H Q := by
 obtain ⟨p, rfl, s⟩ := ints_sqL r
 obtain ⟨h1, h2, h3⟩ := Mi.lMax_spec h
 exact ⟨p, xs, rfl, s, h1, fun z hz ha => by rw [show z = m from Int.le_antisymm (h3 z hz) (ha m h2)]; exact k⟩
end
end G
namespace G
open PySem PySem.Spec PyProof.Rows L2
section
variable {X : Cx} {P : Program} {w : World} {K : PySem.W.Frag} {σ σ' : L2.St} {H : Hp} {F F1 F2 Fu : List Addr} {ta tb te to : TE} {v u x y : V} {i j : Int} {Q : VK} {α : Type} {τ : Ty α} {n : Nat}
theorem pr_rep {R : V → α → Prop} {vs : List V} {xs : List α} (q : Paired R vs xs) : ∀ k : Nat, Paired R (List.replicate k vs).flatten (List.replicate k xs).flatten
 | 0 => .nil
 | k + 1 => by
   rw [List.replicate_succ, List.replicate_succ, List.flatten_cons, List.flatten_cons]
   exact pr_app q (pr_rep q k)
theorem w_rep {xs zs : List α} (r : (yLst τ).rep K H F v xs) (hm : Mi.repL xs i = some zs) (k : ∀ p H', H p = none → Chg [] H H' → (yLst τ).rep K H' [p] (.ref p) zs → Q (.ref p) H') : rRep v (.int i) H Q := by
 obtain ⟨a, vs, rfl, rfl, g, q⟩ := r
 unfold Mi.repL at hm
 split at hm
 · rename_i hc
   obtain rfl := Option.some.inj hm
   refine ⟨a, i, vs, rfl, rfl, g, by omega, by omega, ?_, fun p np => k p _ np (Chg.lay np trivial) ⟨p, _, rfl, rfl, upd_same, ?_⟩⟩
   · rw [Paired.length q]
     exact Nat.le_trans hc.2.2 (by rw [sizeLine_eq]; decide)
   · exact pr_rep (Paired.mapP q fun _ _ z => Ty.ex z (Chg.lay (o := .lst _) np trivial)) i.toNat
 · cases hm
theorem opt_n : (yOpt τ).rep K H [] .non (none : Option α) := ⟨rfl, rfl⟩
theorem opt_i {d : α} (nn : v ≠ .non) (r : τ.rep K H F v d) : (yOpt τ).rep K H F v (some d) := ⟨nn, r⟩
end
end G
namespace G
open PySem PySem.Spec PyProof.Rows L2
section
variable {X : Cx} {P : Program} {w : World} {K : PySem.W.Frag} {σ σ' : L2.St} {H : Hp} {F F1 F2 Fu : List Addr} {ta tb te to : TE} {tA : TT} {v u x y : V} {i j : Int} {Q : VK} {α β : Type} {τ : Ty α} {υ : Ty β} {n : Nat} {g : TG} {tt : TT} {ws : List Nat}
theorem j_if (R : V → Hp → Prop) (h : ∀ Q' : VK, (∀ x H', R x H' → Q' x H') → te σ H Q') (k : ∀ x H', R x H' → Q x H') : te σ H Q := h Q k
theorem w_ife (h : tA σ H fun c H1 => if c = true then ta σ H1 Q else tb σ H1 Q) : tIf tA ta tb σ H Q := h
end
end G
namespace L2
open PySem PySem.Spec PyProof.Rows
section
variable {X : Cx} {e e3 : Expr} {te : TE} {t3 : TO} {pos p2 : Pos}
end
end L2
namespace G
open PySem PySem.Spec PyProof.Rows L2
section
variable {X : Cx} {P : Program} {w : World} {K : PySem.W.Frag} {σ σ' : L2.St} {H : Hp} {F F1 F2 Fu : List Addr} {ta tb te to : TE} {v u x y : V} {i j : Int} {Q : VK} {α β : Type} {τ : Ty α} {υ : Ty β}
end
end G
namespace RT
open PySem PySem.Spec PyProof.Rows L2
section
variable {prog : Program} {w : World} {A : Around} {E : Value → Shared → Prop} {s : Shared}
end
end RT
namespace L2
open PySem PySem.Spec PyProof.Rows RT
section
variable {X : Cx}
end
end L2
namespace G
open PySem PySem.Spec PyProof.Rows L2
section
variable {X : Cx} {K : PySem.W.Frag} {σ σ' : L2.St} {H : Hp} {F : List Addr} {te : TE} {v : V} {Q : VK} {α : Type} {τ : Ty α}
end
end G
namespace L2
open PySem PySem.Spec PyProof.Rows
end L2
namespace G
open PySem PySem.Spec PyProof.Rows L2
section
variable {X : Cx} {K : PySem.W.Frag} {σ σ' : L2.St} {H : Hp} {F : List Addr} {te ta tb : TE} {v : V} {Q : VK} {α : Type} {τ : Ty α} {a b c : List Nat} {i : Int} {D : Ends} {t2 : TS}
theorem q_while {tc : TT} {tb : TS} (h : tWhile tc tb { D with nx := t2 D } σ H) : tSeq (tWhile tc tb) t2 D σ H := h
theorem l_while {tc : TT} {tb : TS} {nx : L2.St → Hp → Prop} (Pv : Nat → L2.St → Hp → Prop) (m : Nat) (h0 : Pv m σ H)
 (hs : ∀ m σ' H', Pv m σ' H' → tc σ' H' fun b H1 => if b = true then ∃ N : L2.St → Hp → Prop, (∀ σ2 H2, N σ2 H2 → ∃ m', m' < m ∧ Pv m' σ2 H2) ∧ tb { D with nx := N, ct := N, bk := nx } σ' H1 else nx σ' H1) : tWhile tc tb { D with nx := nx } σ H := ⟨Pv, ⟨m, h0⟩, hs⟩
end
end G
namespace L2
open PySem PySem.Spec PyProof.Rows ItX
section
variable {X : Cx} {tg e : Expr} {te : TE} {C fi : Addr} {fd : FuncData} {n : Nat} {fld : Str}
end
end L2
namespace G
open PySem PySem.Spec PyProof.Rows L2
section
variable {X : Cx} {K : PySem.W.Frag} {σ σ' : L2.St} {H : Hp} {F : List Addr} {te : TE} {v : V} {α β : Type} {τ : Ty α} {C : Addr} {ns : List Str} {fld : Str}
end
end G
namespace L2
open PySem PySem.Spec PyProof.Rows ItX
section
variable {X : Cx} {C f : Addr} {fd : FuncData} {k : Nat} {ps : List Str} {sp : Sp}
end
section
variable {X : Cx} {C fi : Addr} {fd : FuncData} {n : Nat} {fld : Str}
end
end L2
namespace G
open PySem PySem.Spec PyProof.Rows L2
section
variable {X : Cx} {K : PySem.W.Frag} {σ σ' : L2.St} {H : Hp} {F : List Addr} {ta te : TE} {v x y : V} {α β : Type} {τ : Ty α} {C : Addr} {ns : List Str} {fld : Str} {Q : VK}
def tTru (K : PySem.W.Frag) (ta : TE) : TT := fun σ H Q => ta σ H fun x H' => ∃ k, TruV K x H' k ∧ Q k H'
theorem pt_truK {a : Expr} (ha : PE X a ta) (he : ∀ whole, isTrue a X.env whole = (do let v ← whole; standAt a.pos; holding [v] (truthy v)) := by intro _; rfl) (e : X.K = K := by rfl) : PT X a (tTru K ta) := by
 subst e; exact pt_truth ha he
theorem emp_pr {R : V → α → Prop} {vs : List V} {xs : List α} (q : Paired R vs xs) : vs.isEmpty = xs.isEmpty := by cases q <;> rfl
theorem ans_truL {xs : List α} (r : (yLst τ).rep K H F v xs) (h : Val ta σ H v) : Ans (tTru K ta) σ H (!xs.isEmpty) := fun Q q => by
 obtain ⟨p, vs, rfl, s, pq⟩ := lst_sq r
 exact h _ ⟨!vs.isEmpty, .inl ⟨vs, s, rfl⟩, by rw [emp_pr pq]; exact q⟩
end
end G
namespace PySem
namespace ErrX
open PySem.W PySem.Calls PyProof.Rows PySem.HandSPX
section
variable {prog : Program} {w : World} {A : Around} {E : Value → Shared → Prop} {R : Result → Shared → Prop} {s : Shared} {K : Frag} {mg mb : Str → Option Value} {C fI : Addr} {cn qual : Str} {st : Stmt}
theorem ldX {M : Model} {s : Shared} {name : Str} {scope : Scope} {L a cc : Addr} {cd : Value} {m : Str → Option Value} {x : Str} {pos : Pos} {v : Value} {Q : Value → Shared → Prop} {A : Around} {E : Value → Shared → Prop} (hn : s.heap.Ns L m) (hv : m x = some v) (h : Q v s)
 (hk : scope.kind = .function := by rfl) (hl : (ksEnv name scope L a cd cc).kindOf x = some .local := by rfl) (hd : (x == ("__debug__" : Str)) = false := by decide) :
 wpAny M A (eval (.Name x pos) (ksEnv name scope L a cd cc)) Q E s := wpAny_Name (wpAny_loadName_local hk hl hn hv h) hd
theorem one_size (v : Value) : [v].length ≤ sizeLine := by
 rw [sizeLine_eq]
 exact (by decide : 1 ≤ 16777216)
end
end ErrX
end PySem
namespace L2
open PySem PySem.Spec PyProof.Rows
section
variable {X : Cx} {C fI : Addr} {cn qual : Str} {st : Stmt}
end
end L2
namespace L2
open PySem PySem.Spec PyProof.Rows
section
variable {X : Cx} {CX : CXT} {k n : Nat} {f C : Addr} {fd : FuncData} {ps ks : List Str} {sp : Sp} {E : St → XK} {x : Str} {p pos : Pos} {e : Expr} {es : List Expr} {kws : List Keyword} {t tk : TA} {g : List Value → List Value → List Value} {gV : List V → List V → List V} {ds : List Value} {dvs : List V}
end
section
variable {X : Cx} {a C : Addr} {oe : Obj} {cls : Value} {d : Option Addr} {pn : List (Addr × Obj)} {K : PySem.W.Frag}
end
end L2
namespace G
open PySem PySem.Spec PyProof.Rows L2
section
variable {K : PySem.W.Frag} {σ : L2.St} {H : Hp} {Q : VK} {C : Addr} {D : Ends} {t2 : TS} {te : TE} {a dd : Addr} {fs : List (Str × V)}
end
end G
namespace G
open PySem PySem.Spec PyProof.Rows L2
abbrev FnN : Type := Option (Str × Str × Arguments × FuncBody × Scope × Addr × List Str × Addr)
structure ErrD where
 x : Str
 qual : Str
 st : Stmt
def ErrD.val (d : ErrD) : FnN := some ("__init__", d.qual, defArgs d.st, .stmts (defBody d.st), defScope d.st, mainGlobals, ["__class__"], builtinsNs)
def excB (K : PySem.W.Frag) (C : Addr) : Bool := match K.lookup C with
 | some ⟨.type c, _, .cls cd, sl⟩ => decide (c = "type") && (match cd.mro with
   | v :: bm => decide (v = .ref C) && refsVEb bm
   | _ => false) && cd.hasDict && !cd.hasDel && (match sl.toList with
   | [_, _, _, _, some (.builtin i), _] => decide (i = "ValueError.__new__")
   | _ => false)
 | _ => false
where refsVEb (l : List Value) : Bool := PySem.HandSPX.refsVE l
def valB (v w : Option (Option Value)) : Bool := decide (v = w)
def errC (K : PySem.W.Frag) (C fI : Addr) : Bool :=
 excB K C && (valB (PySem.W.findIn K (.ref C) "__setattr__") (some (some (.builtin "object.__setattr__"))) && (valB (PySem.W.findIn K (.ref C) "__getattribute__") (some (some (.builtin "BaseException.__getattribute__"))) &&
 (valB (PySem.W.findIn K (.ref C) "__getattr__") (some none) && (valB (PySem.W.findIn K (.ref C) "part") (some none) && (valB (PySem.W.findIn K (.ref C) "__init__") (some (some (.ref fI))) &&
 (decide (PySem.W.typeIn K (.ref fI) = some (.type "function")) && (PySem.W.keepIn K (.ref C) && (decide (PySem.W.subIn K (.ref C) (.type "BaseException") = some true) && (decide (PySem.W.subIn K (.ref C) (.type "ValueError") = some true) &&
 (decide (PySem.W.typeIn K (.ref C) = some (.type "type")) && (PySem.W.hasDictIn K C && (decide (PySem.W.mroIn K C (.ref C) = some true) && (valB (PySem.W.ks_superIn K C C "__init__") (some (some (.builtin "ValueError.__init__"))) &&
 (valB (PySem.W.nsIn K cStatics "thirdparty.any") (some none) && ((PySem.W.clsIn K C).isSome && (valB (PySem.W.findIn K (.ref C) "__class__") (some (some (.builtin "object.__class__"))) &&
 (valB (PySem.W.specialIn K (.builtin "object.__class__") "__get__") (some (some (.builtin "getset_descriptor.__get__"))) && (decide (PySem.W.takesIn K (.builtin "object.__class__") = some true) && decide (PySem.W.mroIn K C (.type "object") = some true)))))))))))))))))))
def fileB (file : Str) : Option Value → Bool
 | some (.str f _) => file == f
 | _ => false
def errF (K : PySem.W.Frag) (C fI : Addr) (qual file : Str) : Bool := match K.lookup fI with
 | some ⟨_, _, .func fd, _⟩ => (match fd.defaults, fd.kwdefaults, fd.closure, fd.code with
   | .none, .none, [(_, cc)], .ref cda => PySem.W.codeIn K (.ref cda) qual && ((match K.lookup cda with
     | some ⟨_, _, .fields vs, _⟩ => fileB file vs[2]?
     | _ => false) && (match K.lookup cc with
     | some ⟨_, _, .cell (some v), _⟩ => decide (v = .ref C)
     | _ => false))
   | _, _, _, _ => false)
 | _ => false
def ErrD.ok (K : PySem.W.Frag) (file : Str) (d : ErrD) : Bool := errC K (He.ga K d.x) (He.fAd K (d.x, some "__init__")) && errF K (He.ga K d.x) (He.fAd K (d.x, some "__init__")) d.qual file
end G
namespace G
open PySem PySem.Spec PyProof.Rows L2
section
variable {K : PySem.W.Frag} {H : Hp} {F : List Addr} {v : V}
variable {x y : Option (List Nat)} {u : V} {F1 F2 : List Addr} {Q : VK}
end
end G
namespace L2
open PySem PySem.Spec PyProof.Rows
section
variable {X : Cx} {e : Expr} {te : TE} {pos p1 p2 : Pos} {cs : List MatchCase} {tm tr : Str → TS} {tb : TS} {body : List Stmt} {c : Str} {j : Option Str}
end
end L2
namespace G
open PySem PySem.Spec PyProof.Rows L2
section
variable {K : PySem.W.Frag} {σ : L2.St} {H : Hp} {F : List Addr} {v : V} {Q : VK} {D : Ends} {t2 tb : TS} {te : TE} {tm tr : Str → TS} {α β : Type} {τ : Ty α} {υ : Ty β}
def ySum (τ : Ty α) (υ : Ty β) : Ty (α ⊕ β) where
 rep K H F v d := match d with
   | .inl a => τ.rep K H F v a
   | .inr b => υ.rep K H F v b
 keep {K H H' F v d} h k := by
   cases d with
   | inl a => exact τ.keep h k
   | inr b => exact υ.keep h k
 dom {K H F v d} h b m := by
   cases d with
   | inl a => exact τ.dom h b m
   | inr c => exact υ.dom h b m
end
end G
namespace L2
open PySem PySem.Spec PyProof.Rows
section
variable {X : Cx} {cs : List MatchCase} {tr : Str → TS} {tb : TS} {body : List Stmt} {c d : Str} {p1 p2 p3 p4 p5 : Pos}
end
end L2
namespace G
open PySem PySem.Spec PyProof.Rows L2
section
variable {K : PySem.W.Frag} {σ : L2.St} {H : Hp} {F F1 F2 : List Addr} {v u : V} {Q : VK} {te ta tb : TE} {α β : Type} {τ : Ty α} {υ : Ty β}
end
end G
namespace L2
open PySem PySem.Spec PyProof.Rows
section
variable {X : Cx} {cs : List MatchCase} {tr : V → TS} {tb : TS} {body : List Stmt} {c : Str} {p1 p2 p3 pos : Pos} {e : Expr} {te : TE} {tm : V → TS}
theorem pr_len {α β : Type} {R : α → β → Prop} {l : List α} {m : List β} (h : Paired R l m) : l.length = m.length := by
 induction h with
 | nil => rfl
 | cons _ _ ih => rw [List.length_cons, List.length_cons, ih]
end
end L2
namespace G
open PySem PySem.Spec PyProof.Rows L2
section
variable {K : PySem.W.Frag} {σ : L2.St} {H : Hp} {F F1 F2 : List Addr} {v u : V} {Q : VK} {D : Ends} {t2 tb : TS} {te ta tc : TE} {tm tr : V → TS} {α : Type} {τ : Ty α}
abbrev y2 : Ty (Int ⊕ Bool) := ySum yInt yBool
end
end G
namespace G
open PySem PySem.Spec PyProof.Rows L2
def FrzG (Q : VK) (x : V) (H1 : Hp) : Prop := ∃ a xs, x = .ref a ∧ H1 a = some (.lst xs) ∧ ∀ o, Q x (upd H1 a (.frz o (.lst xs)))
def tFrz (te : TE) : TE := fun σ H Q => te σ H (FrzG Q)
theorem pe_frz {X : Cx} {e : Expr} {te : TE} (he : PE X e te) : PE X e (tFrz te) := by
 refine ⟨fun pins s σ H Q I h => ?_⟩
 refine thn (he.run pins s σ H _ I h) fun u s1 ⟨x, H1, I1, r1, a, xs, ex, ha, q⟩ => ?_
 obtain ⟨z, its, n, rv, e⟩ := (show ObjOk X.prog X.w H1 s1.heap a (.lst xs) from I1.hok a _ ha)
 refine ⟨x, upd H1 a (.frz _ (.lst xs)), ?_, r1, q { cls := .type "list", data := .seq its.toArray n }⟩
 have ne : ∀ b u, H1 b = some u → u ≠ .lst xs → b ≠ a := fun b u hb hu z => by rw [z, ha] at hb; exact hu (Option.some.inj hb).symm
 refine I1.un (t' := s1.toks) (h' := s1.heap) ⟨fun b o q _ _ _ => q, fun b o q _ _ _ => ⟨o.slots, q⟩, fun b o q n _ => ?_, fun b o q _ => ⟨o, q⟩, fun b ys q => ?_, fun b o u q => ?_, fun b ps q => ⟨#[], ?_⟩⟩ fun b u q => ?_
 · rw [upd_ne (fun z => by rw [z, ha] at n; cases n)]; exact n
 · rw [upd_ne (ne b _ q (fun z => nomatch z))]; exact q
 · rw [upd_ne (ne b _ q (fun z => nomatch z))]; exact q
 · rw [upd_ne (ne b _ q (fun z => nomatch z)), q]; simp
 · by_cases hb : b = a
   · subst hb; rw [upd_same] at q; cases q
     exact ⟨e, z, its, n, rv, e⟩
   · rw [upd_ne hb] at q
     exact (I1.hok b u q).stay (fun c v _ q => q) (fun c q => by rw [upd_ne (ne c _ q (fun z => nomatch z))]; exact q) fun c ys q => by rw [upd_ne (ne c _ q (fun z => nomatch z))]; exact q
def yFl {α : Type} (τ : Ty α) : Ty (List α) where
 rep K H F v xs := F = [] ∧ ∃ a vs o, v = .ref a ∧ H a = some (.frz o (.lst vs)) ∧ Paired (fun u x => τ.rep K H [] u x) vs xs
 keep {K H H' F v xs} h k := by
   obtain ⟨f, a, vs, o, e, g, r⟩ := h
   exact ⟨f, a, vs, o, e, k a _ g (.inr trivial), Paired.mapP r fun u x q => τ.keep q fun b o hb z => k b o hb (z.elim (fun y => nomatch y) .inr)⟩
 dom {K H F v xs} h b m := by
   rw [h.1] at m; cases m
section
variable {K : PySem.W.Frag} {σ σ' : L2.St} {H : Hp} {F F1 F2 Fu : List Addr} {ta tb te : TE} {tt : TT} {v u x y : V} {i j : Int} {α β : Type} {τ : Ty α} {υ : Ty β} {Q : VK} {D : Ends} {t1 t2 : TS} {g : TG} {ws : List Nat}
theorem w_frz (h : te σ H (FrzG Q)) : tFrz te σ H Q := h
theorem e_frz {xs : List α} (r : (yLst τ).rep K H F v xs) (k : ∀ H', Chg F H H' → (yFl τ).rep K H' [] v xs → Q v H') : FrzG Q v H := by
 obtain ⟨a, vs, e, f, g, q⟩ := r
 subst f
 have c : ∀ o, Chg [a] H (upd H a (.frz o (.lst vs))) := fun o => Chg.wr g (fun z => z)
 exact ⟨a, vs, e, g, fun o => k _ (c o) ⟨rfl, a, vs, o, e, upd_same, Paired.mapP q fun u x z => Ty.fz z (c o)⟩⟩
theorem fl_sq {xs : List α} (r : (yFl τ).rep K H F v xs) : ∃ a vs, v = .ref a ∧ SqL K H a vs ∧ Paired (fun u x => τ.rep K H [] u x) vs xs := by
 obtain ⟨f, a, vs, o, e, g, q⟩ := r
 exact ⟨a, vs, e, .inl (.inr ⟨o, g⟩), q⟩
theorem val_lenF {xs : List α} (r : (yFl τ).rep K H F v xs) (ha : Val ta σ H v) : Val (tCB (rLenQ K) (tCons ta tNil)) σ H (.int (xs.length : Int)) := by
 obtain ⟨a, vs, e, s, q⟩ := fl_sq r
 subst e
 exact fun Q k => ha _ ⟨a, vs, rfl, .inl s, by rw [pr_len q]; exact k⟩
theorem itm_F {xs : List α} {x : α} (r : (yFl τ).rep K H F v xs) (h : Mi.at_ xs i = some x) :
   ∃ u, τ.rep K H [] u x ∧ ∀ {σ : L2.St} {ta tb : TE}, Val ta σ H v → Val tb σ H (.int i) → Val (tOp (rIxL K) ta tb) σ H u := by
 obtain ⟨a, vs, e, s, q⟩ := fl_sq r
 subst e
 obtain ⟨u, e, ru⟩ := pr_at q h
 exact ⟨u, ru, fun ha hb => val_op ha hb fun Q k => ⟨a, vs, i, u, rfl, rfl, s, e, k⟩⟩
theorem l_fl {g : TG} {tb : TS} {nx : L2.St → Hp → Prop} {xs : List α} (r : (yFl τ).rep K H F v xs) (Pv : Nat → L2.St → Hp → Prop) (h0 : Pv 0 σ H) (hl : ∀ i σ' H', Pv i σ' H' → (yFl τ).rep K H' F v xs)
   (hs : ∀ (i : Nat) (x : α) (u : V) σ' H', xs[i]? = some x → τ.rep K H' [] u x → Pv i σ' H' → g u σ' H' fun σ2 H2 => tb { D with nx := Pv (i + 1), ct := Pv (i + 1), bk := nx } σ2 H2) (hd : ∀ σ' H', Pv xs.length σ' H' → nx σ' H') :
   ∃ a, v = .ref a ∧ (∃ xs, SqL K H a xs) ∧ LoopG (Itl K a) g tb D nx σ H := by
 obtain ⟨a, vs, e, s, q⟩ := fl_sq r
 refine ⟨a, e, ⟨vs, s⟩, fun i m σ' H' => m = xs.length - i ∧ i ≤ xs.length ∧ Pv i σ' H', ⟨xs.length, by omega, Nat.zero_le _, h0⟩, ?_⟩
 rintro i m σ' H' ⟨rfl, hi, p⟩
 obtain ⟨a', vs', e', s', q'⟩ := fl_sq (hl i σ' H' p)
 obtain rfl : a = a' := by rw [e] at e'; exact V.ref.inj e'
 by_cases hlt : i < xs.length
 · obtain ⟨u, hu, ru⟩ := pr_get q' (List.getElem?_eq_getElem hlt)
   refine .inr ⟨⟨vs', u, s', hu⟩, Pv (i + 1), fun σ2 H2 p' => ⟨xs.length - (i + 1), by omega, rfl, hlt, p'⟩, fun x H2 y => ?_⟩
   obtain ⟨rfl, y⟩ := y
   obtain rfl : x = u := Option.some.inj ((y _ s').symm.trans hu)
   exact hs i _ _ σ' _ (List.getElem?_eq_getElem hlt) ru p
 · obtain rfl : i = xs.length := by omega
   exact .inl ⟨⟨vs', s', by rw [pr_len q']; exact Nat.le_refl _⟩, hd σ' H' p⟩
theorem kc_fl {xs : List β} (r : (yFl υ).rep K H F v xs) (Pv : Addr → Nat → Hp → Prop) (h0 : ∀ D H', H D = none → Chg [] H H' → (yLst τ).rep K H' [D] (.ref D) [] → Pv D 0 H') (hl : ∀ D i H', Pv D i H' → (yFl υ).rep K H' F v xs)
   (hs : ∀ D (i : Nat) (x : β) (u : V) H', xs[i]? = some x → υ.rep K H' [] u x → Pv D i H' → TurnG g tt te ws σ D (Pv D (i + 1)) u H') (hd : ∀ D H', H D = none → Pv D xs.length H' → Q (.ref D) H') :
   ∃ a, v = .ref a ∧ (∃ xs, SqL K H a xs) ∧ CompG (Itl K a) g tt te ws σ H Q := by
 obtain ⟨a, vs, e, s, q⟩ := fl_sq r
 refine ⟨a, e, ⟨vs, s⟩, comp_by (K := K) (τ := τ) xs.length Pv h0 (fun D i H' hi p => ?_) (fun D H' hD p => ?_)⟩
 · obtain ⟨a', vs', e', s', q'⟩ := fl_sq (hl D i H' p)
   obtain rfl : a = a' := by rw [e] at e'; exact V.ref.inj e'
   obtain ⟨u, hu, ru⟩ := pr_get q' (List.getElem?_eq_getElem hi)
   refine ⟨⟨vs', u, s', hu⟩, fun x H2 y => ?_⟩
   obtain ⟨rfl, y⟩ := y
   obtain rfl : x = u := Option.some.inj ((y _ s').symm.trans hu)
   exact hs D i _ _ _ (List.getElem?_eq_getElem hi) ru p
 · obtain ⟨a', vs', e', s', q'⟩ := fl_sq (hl D _ H' p)
   obtain rfl : a = a' := by rw [e] at e'; exact V.ref.inj e'
   exact ⟨⟨vs', s', by rw [pr_len q']; exact Nat.le_refl _⟩, hd D H' hD p⟩
theorem w_listF {xs : List α} (r : (yFl τ).rep K H F v xs) (k : ∀ p H', H p = none → Chg [] H H' → (yLst τ).rep K H' [p] (.ref p) xs → Q (.ref p) H') : rListQ K [v] H Q := by
 obtain ⟨p, vs, rfl, s, q⟩ := fl_sq r
 exact ⟨p, vs, rfl, .inl s, fun n nn => k n _ nn (Chg.lay nn trivial) ⟨n, _, rfl, rfl, upd_same, Paired.mapP q fun _ _ z => Ty.ex z (Chg.lay nn trivial)⟩⟩
end
end G
namespace G
open PySem PySem.Spec PyProof.Rows
end G
namespace L2
open PySem PySem.Spec PyProof.Rows
end L2
namespace G
open PySem PySem.Spec PyProof.Rows L2
section
variable {X : Cx} {K : PySem.W.Frag} {σ σ' : L2.St} {H : Hp} {F F1 F2 Fu : List Addr} {ta tb te : TE} {v u x y : V} {i j : Int} {n : Nat} {α β : Type} {τ : Ty α} {υ : Ty β} {Q : VK} {D : Ends} {t1 t2 : TS} {g : TG} {ws : List Nat}
def dat_fl (d : Dat τ n) : Dat (yFl τ) (n + 1) where
 f := fun xs => .list (xs.map d.f)
 dec := @instDecidableEqList _ d.dec
 dp := fun h => by
   obtain ⟨a, vs, rfl, s, q⟩ := fl_sq h
   exact .lst s (dpAll (fun u x z => d.dp z) q)
 lay := fun xs => by simp only [PyData.canLay0]; exact layAll d.lay xs
 dpt := fun xs => by simp only [PyData.depth]; exact Nat.succ_le_succ (dptAll d.dpt xs)
 eqv := fun xs ys => by simp only [PyData.eqv]; exact @eqvAllL _ d.dec _ d.eqv xs ys
end
end G
namespace G
open PySem PySem.Spec PyProof.Rows L2
end G
namespace L2
open PySem PySem.Spec PyProof.Rows
end L2
namespace G
open PySem PySem.Spec PyProof.Rows L2
section
variable {K : PySem.W.Frag} {σ σ' : L2.St} {H : Hp} {F F1 F2 Fu : List Addr} {ta tb tc td te : TE} {v u x y : V} {i j k l : Int} {α β : Type} {τ : Ty α} {υ : Ty β} {Q : VK} {c : Bool}
end
end G
namespace G
open PySem PySem.Spec PyProof.Rows L2
section
variable {K : PySem.W.Frag} {σ σ' : L2.St} {H : Hp} {F F1 F2 Fu : List Addr} {ta tb te : TE} {v u x y : V} {i j : Int} {α β : Type} {τ : Ty α} {υ : Ty β} {Q : VK}
def Lst (H : Hp) (a : Addr) (xs : List V) : Prop := H a = some (.lst xs) ∨ ∃ o, H a = some (.frz o (.lst xs))
theorem lst_ok {X : Cx} {pins : List (Addr × Obj)} {σ : L2.St} {s : Shared} {H : Hp} {a : Addr} {xs : List V} (I : Inv X pins σ H s) (h : Lst H a xs) : ∃ (its : List Value) (n : Nat), Vals xs its ∧ xs.length = its.length ∧ s.heap.get? a = some { cls := .type "list", data := .seq its.toArray n } := by
 rcases h with h | ⟨o, h⟩
 · obtain ⟨z, its, n, r, e⟩ := (show ObjOk X.prog X.w H s.heap a (.lst xs) from I.hok a _ h)
   exact ⟨its, n, r, r.length, e⟩
 · obtain ⟨e0, z, its, n, r, e⟩ := (show s.heap.get? a = some o ∧ ObjOk X.prog X.w H s.heap a (.lst xs) from I.hok a _ h)
   exact ⟨its, n, r, r.length, e⟩
section
variable {n m : Nat} {x y : α} {w' : V}
theorem w_neD2 [z : DecidableEq α] {τ υ : Ty α} (d : Dat τ n) (d2 : Dat υ m) (e : ∀ x, d2.f x = d.f x) (r : τ.rep K H F1 v x) (q : υ.rep K H F2 w' y) (k : Q (.bl (!decide (x = y))) H) (hn : n ≤ 64 := by decide) : rNeD K v w' H Q :=
 ⟨_, _, d.dp r, e y ▸ d2.dp q, d.shaped hn x, d.shaped hn y, by
   have e : @decide (x = y) (d.dec x y) = @decide (x = y) (z x y) := by congr
   rw [d.eqv, e]; exact k⟩
end
end
end G
namespace G
open PySem PySem.Spec PyProof.Rows L2
section
variable {K : PySem.W.Frag} {σ σ' : L2.St} {H H' : Hp} {F F1 F2 Fu : List Addr} {ta tb te : TE} {v u x y : V} {i j : Int} {α β : Type} {τ : Ty α} {υ : Ty β} {Q : VK} {D : Ends}
end
end G
namespace G
open PySem PySem.Spec PyProof.Rows L2
section
variable {K : PySem.W.Frag} {σ σ' : L2.St} {H H' : Hp} {F F1 F2 Fu : List Addr} {ta tb te : TE} {v u x y : V} {i j : Int} {α β : Type} {τ : Ty α} {υ : Ty β} {Q : VK} {D : Ends}
end
end G
namespace G
open PySem PySem.Spec PyProof.Rows L2
section
variable {K : PySem.W.Frag} {σ σ' : L2.St} {H : Hp} {F F1 F2 Fu G : List Addr} {ta tb te : TE} {v u x y e : V} {i j : Int} {α β : Type} {τ : Ty α} {υ : Ty β} {Q : VK} {D : Ends} {nx : L2.St → Hp → Prop}
end
end G
namespace L2
open PySem PySem.Spec PyProof.Rows
end L2
namespace G
open PySem PySem.Spec PyProof.Rows L2
section
variable {X : Cx} {K : PySem.W.Frag} {σ σ' : L2.St} {H : Hp} {F F1 F2 Fu : List Addr} {ta tb te : TE} {v u x y : V} {i j : Int} {n : Nat} {α β : Type} {τ : Ty α} {υ : Ty β} {Q : VK} {D : Ends} {t1 t2 : TS} {g : TG} {ws : List Nat}
end
end G
namespace L2
open PySem PySem.Spec PyProof.Rows
end L2
namespace G
open PySem PySem.Spec PyProof.Rows L2
section
variable {K : PySem.W.Frag} {σ σ' : L2.St} {H : Hp} {F F1 F2 Fu : List Addr} {ta tb te : TE} {v u x y : V} {i j : Int} {α β : Type} {τ : Ty α} {υ : Ty β} {Q : VK} {D : Ends}
end
end G
namespace G
open PySem PySem.Spec PyProof.Rows L2
section
variable {K : PySem.W.Frag} {σ σ' : L2.St} {H : Hp} {F F1 F2 Fu G : List Addr} {ta tb te : TE} {v u x y e : V} {i j : Int} {α β : Type} {τ : Ty α} {υ : Ty β} {Q : VK} {D : Ends} {t1 t2 : TS}
end
end G
namespace G
open PySem PySem.Spec PyProof.Rows L2
section
variable {K : PySem.W.Frag} {H : Hp} {F1 F2 : List Addr} {v w' : V} {Q : VK} {α : Type} {n m : Nat} {x y : α}
end
end G
namespace G
open PySem PySem.Spec PyProof.Rows L2
end G
namespace G
open PySem PySem.Spec PyProof.Rows L2
def deaf : GenState → GenState
 | .suspended _ l c p fs cl => .suspended (fun _ => .unsupported "") l c p fs cl
 | x => x
def slp : GenState → Bool
 | .suspended .. => true
 | _ => false
def plainG : GenState → Prop
 | .suspended _ _ _ _ fs _ => splitAtGen fs = none
 | _ => True
structure Sim (D : Nat → Option GenState) (G G0 : Array GenState) : Prop where
 sz : G0.size = G.size
 old : ∀ (g : Nat) x, D g = some x → G[g]? = some x ∧ G0[g]? = some (deaf x) ∧ slp x = true
 new : ∀ (g : Nat) x, D g = none → G[g]? = some x → G0[g]? = some x ∧ plainG x
section
variable {D : Nat → Option GenState} {G G0 : Array GenState} {g : Nat} {x : GenState}
theorem Sim.get (h : Sim D G G0) (d : D g = none) (e : G0[g]? = some x) : G[g]? = some x ∧ plainG x := by
 have l : g < G.size := by rw [← h.sz]; exact (Array.getElem?_eq_some_iff.mp e).1
 have q : G[g]? = some G[g] := Array.getElem?_eq_getElem l
 obtain ⟨a, b⟩ := h.new g _ d q
 rw [e] at a; cases a
 exact ⟨q, b⟩
theorem Sim.set (h : Sim D G G0) (d : D g = none) (px : plainG x) : Sim D (G.setIfInBounds g x) (G0.setIfInBounds g x) := by
 refine ⟨by rw [Array.size_setIfInBounds, Array.size_setIfInBounds]; exact h.sz, fun j y q => ?_, fun j y q r => ?_⟩
 · have ne : g ≠ j := fun z => by subst z; rw [d] at q; cases q
   rw [Array.getElem?_setIfInBounds_ne ne, Array.getElem?_setIfInBounds_ne ne]
   exact h.old j y q
 · by_cases ne : g = j
   · subst ne
     rw [Array.getElem?_setIfInBounds_self] at r ⊢
     split at r
     · cases r
       rename_i l
       rw [if_pos (by rw [h.sz]; exact l)]
       exact ⟨rfl, px⟩
     · cases r
   · rw [Array.getElem?_setIfInBounds_ne ne] at r ⊢
     exact h.new j y q r
theorem Sim.push (h : Sim D G G0) (px : plainG x) : Sim D (G.push x) (G0.push x) := by
 refine ⟨by rw [Array.size_push, Array.size_push, h.sz], fun j y q => ?_, fun j y q r => ?_⟩
 · obtain ⟨a, b, c⟩ := h.old j y q
   have l := (Array.getElem?_eq_some_iff.mp a).1
   refine ⟨?_, ?_, c⟩
   · rw [Array.getElem?_push, if_neg (by omega)]; exact a
   · rw [Array.getElem?_push, if_neg (by rw [h.sz]; omega)]; exact b
 · rw [Array.getElem?_push] at r ⊢
   by_cases l : j = G.size
   · rw [if_pos l] at r
     rw [if_pos (by rw [h.sz]; exact l)]
     cases r
     exact ⟨rfl, px⟩
   · rw [if_neg l] at r
     rw [if_neg (by rw [h.sz]; exact l)]
     exact h.new j y q r
end
end G
namespace G
open PySem PySem.Spec PyProof.Rows L2 GenW
abbrev Zk := Hp × List (Addr × Obj)
structure GP where
 M : Model
 A : Around
 En : Nat → Zk → Shared → Result → Shared → Prop
 Yd : Nat → Zk → Shared → Value → Shared → (Zk → Shared → Prop) → Prop
section
variable {G : GP} {n : Nat} {Z : Zk} {so s : Shared} {c : Code} {fs : List Frame}
end
structure GF where
 X0 : Cx
 q : Nat
 n : Nat
 it : Nat → V → Hp → Prop
 Hs : Hp
 g0 : Addr × Obj
def cutH (h : Heap) (L : Addr) : Heap := { h with objs := h.objs.extract 0 L }
theorem ext_get {α : Type} (a : Array α) {L b : Nat} (hb : b < L) : (a.extract 0 L)[b]? = a[b]? := by
 rw [Array.getElem?_extract]
 by_cases l : b < a.size
 · rw [if_pos (by omega), Nat.zero_add]
 · rw [if_neg (by omega), Array.getElem?_eq_none (by omega)]
theorem get_objs {h h' : Heap} {b : Addr} (e : h.objs[b]? = h'.objs[b]?) : h.get? b = h'.get? b := by
 unfold Heap.get?
 rw [e]
theorem cutH_get {h : Heap} {L b : Addr} (hb : b < L) : (cutH h L).get? b = h.get? b := get_objs (ext_get h.objs hb)
def GF.at (F : GF) (s : Shared) (Z : Zk) : Cx := { F.X0 with s_0 := { s with heap := cutH s.heap F.X0.env.locals }, H_0 := Z.1, pn := Z.2 }
def IpOk (F : GF) (Z : Zk) (so : Shared) (ip : List (Addr × Obj)) : Prop := (F.X0.env.locals ≤ so.heap.objs.size ∧ F.g0 ∈ ip) ∧ ∀ p ∈ ip, F.X0.env.locals ≤ p.1 ∧ ∀ p' ∈ Z.2, p'.1 ≠ p.1
def GF.yd (F : GF) : Nat → Zk → Shared → Value → Shared → (Zk → Shared → Prop) → Prop := fun m Z so v s' kap =>
 ∃ x σ Hy ip, 0 < m ∧ m ≤ F.n ∧ RelV x v ∧ F.it (F.n - m) x Hy ∧ Chg [] F.Hs Hy ∧ Inv (F.at so Z) ip σ Hy s' ∧ IpOk F Z so ip ∧ ∀ s2 P2 H2, Chg [] Hy H2 → Inv (F.at s2 (H2, P2)) ip σ H2 s2 → IpOk F (H2, P2) s2 ip → kap (H2, P2) s2
def GF.en (F : GF) (gp : Addr × Obj) : Nat → Zk → Shared → Result → Shared → Prop := fun m Z so r s' =>
 (r = .ok (.ret .none) ∨ r = .ok .next) ∧ m = 0 ∧ ∃ σ He ip, Chg [] F.Hs He ∧ gp ∈ ip ∧ Inv (F.at so Z) ip σ He s' ∧ IpOk F Z so ip
def GF.gp (F : GF) (A : Around) (gp : Addr × Obj) : GP := ⟨model F.X0.prog F.X0.w, A, F.en gp, F.yd⟩
section
variable {F : GF} {st : Stmt} {rest : List Stmt} {t u : TS}
end
end G
namespace G
open PySem PySem.Spec PyProof.Rows L2 GenW
section
variable {F : GF} {st : Stmt} {rest : List Stmt} {t u : TS}
end
end G
namespace G
open PySem PySem.Spec PyProof.Rows L2 GenW
def insOf : HO → Option Addr
 | .ins _ dx _ => some dx
 | .frz _ u => insOf u
 | _ => none
def Exp : HO → Prop
 | .tup _ => True
 | .frz _ (.tup _) => True
 | .frz _ (.lst _) => True
 | _ => False
theorem exp_ins {o : HO} (h : Exp o) : insOf o = none := by
 cases o with
 | tup _ => rfl
 | frz _ u => cases u <;> first | rfl | exact h.elim
 | _ => exact h.elim
def Flt : HO → Prop
 | .lst _ => True
 | .dK _ => True
 | .dT _ => True
 | .set _ _ => True
 | .ext _ => True
 | _ => False
theorem flt_ins {o : HO} (h : Flt o) : insOf o = none := by cases o <;> first | rfl | exact h.elim
section
variable {P : Program} {w : World} {H H' : Hp} {h h' : Heap} {a : Addr} {o : HO}
theorem obj_mv (x : ObjOk P w H h a o) (e : ∀ u, h.get? a = some u → h'.get? a = some u) (d : ∀ dx, insOf o = some dx → (∀ u, h.get? dx = some u → h'.get? dx = some u) ∧ H' dx = some (.own a))
   (ht : ∀ b xs, H b = some (.tup xs) → H' b = some (.tup xs)) : ObjOk P w H' h' a o := by
 induction o with
 | lst xs => obtain ⟨z, its, n, r, q⟩ := x; exact ⟨z, its, n, r, e _ q⟩
 | tup xs => obtain ⟨z, its, r, ob, q, c⟩ := x; exact ⟨z, its, r, ob, e _ q, c⟩
 | dK kvs => obtain ⟨z, y, vs, r, ob, es, ep, q, c⟩ := x; exact ⟨z, y, vs, r, ob, es, ep, e _ q, c⟩
 | dT kvs =>
   obtain ⟨z, y, xs, r, ob, es, ep, q, c⟩ := x
   exact ⟨z, y, xs, Paired.mapP r fun p r z => ⟨z.1, ht _ _ z.2.1, z.2.2⟩, ob, es, ep, e _ q, c⟩
 | set S n => obtain ⟨ob, es, ep, t, q, c⟩ := x; exact ⟨ob, es, ep, t, e _ q, c⟩
 | ins C dx fs =>
   obtain ⟨_, z, ne, q, mA, ⟨od, es, ep, e2, c⟩, r⟩ := x
   obtain ⟨d1, d2⟩ := d dx rfl
   exact ⟨d2, z, ne, e _ q, mA, ⟨od, es, ep, d1 _ e2, c⟩, r⟩
 | own y => obtain ⟨ob, q⟩ := x; exact ⟨ob, e _ q⟩
 | xd fs => obtain ⟨mA, ⟨od, es, ep, q, c⟩, r⟩ := x; exact ⟨mA, ⟨od, es, ep, e _ q, c⟩, r⟩
 | rng lo hi => obtain ⟨t, u, v, q⟩ := x; exact ⟨t, u, v, e _ q⟩
 | frz ob u ih => obtain ⟨q, y⟩ := x; exact ⟨e _ q, ih y d⟩
 | tbl ps => exact e _ x
 | met f y => exact e _ x
 | ext φ => obtain ⟨p, ⟨ob, q⟩, st⟩ := x; exact ⟨st _ _ p fun ob q => e _ q, ⟨ob, e _ q⟩, st⟩
theorem obj_at (x : ObjOk P w H h a o) : ∃ ob, h.get? a = some ob := by
 induction o with
 | lst xs => obtain ⟨_, _, _, _, e⟩ := x; exact ⟨_, e⟩
 | tup xs => obtain ⟨_, _, _, ob, e, _⟩ := x; exact ⟨_, e⟩
 | dK kvs => obtain ⟨_, _, _, _, o, _, _, e, _⟩ := x; exact ⟨_, e⟩
 | dT kvs => obtain ⟨_, _, _, _, o, _, _, e, _⟩ := x; exact ⟨_, e⟩
 | set S n => obtain ⟨o, _, _, _, e, _⟩ := x; exact ⟨_, e⟩
 | ins C dx fs => obtain ⟨_, _, _, e, _⟩ := x; exact ⟨_, e⟩
 | own y => exact x
 | xd fs => obtain ⟨_, ⟨_, _, _, e, _⟩, _⟩ := x; exact ⟨_, e⟩
 | rng lo hi => obtain ⟨_, _, _, e⟩ := x; exact ⟨_, e⟩
 | frz ob u _ => exact ⟨_, x.1⟩
 | tbl ps => exact ⟨_, x⟩
 | met f y => exact ⟨_, x⟩
 | ext φ => exact x.2.1
theorem obj_nc {H0 : Hp} (ok : HOk P w H h) (x : ObjOk P w H h a o) (n : NCo H0 H a o) {ob : Obj} (e : h.get? a = some ob) : ∀ v, ob.data ≠ .cell v := by
 have flat : ∀ {u : HO}, NCf u → ObjOk P w H h a u → ∀ v, ob.data ≠ .cell v := fun {u} hn x v z => by
   cases u with
   | lst xs => obtain ⟨_, _, _, _, q⟩ := x; rw [e] at q; cases q; cases z
   | tup xs => obtain ⟨_, _, _, oo, q, _, _, d⟩ := x; rw [e] at q; cases q; rw [z] at d; cases d
   | dK kvs => obtain ⟨_, _, _, _, o, _, _, q, _, d, _⟩ := x; rw [e] at q; cases q; rw [z] at d; cases d
   | dT kvs => obtain ⟨_, _, _, _, o, _, _, q, _, d, _⟩ := x; rw [e] at q; cases q; rw [z] at d; cases d
   | set S n => obtain ⟨o, _, _, _, q, _, d, _⟩ := x; rw [e] at q; cases q; rw [z] at d; cases d
   | xd fs => obtain ⟨_, ⟨_, _, _, q, d, _⟩, _⟩ := x; rw [e] at q; cases q; rw [z] at d; cases d
   | rng lo hi => obtain ⟨_, _, _, q⟩ := x; rw [e] at q; cases q; cases z
   | tbl ps => have q : h.get? a = some _ := x; rw [e] at q; cases q; cases z
   | met f y => have q : h.get? a = some _ := x; rw [e] at q; cases q; cases z
   | _ => exact hn
 cases o with
 | own y =>
   obtain ⟨C, fs, g⟩ := n
   obtain ⟨_, _, _, _, mA, ⟨od, _, _, q, d, _⟩, _⟩ := ok y _ g
   intro v z
   rw [e] at q; cases q; rw [z] at d; cases d
 | ins C dx fs =>
   obtain ⟨_, _, _, q, _⟩ := x
   intro v z
   rw [e] at q; cases q; cases z
 | ext φ => exact n h ob x.1 e
 | frz oo u =>
   rcases n with n | n
   · exact flat n x.2
   · have q : h.get? a = some oo := x.1
     rw [e] at q; cases q; exact n.2
 | lst xs => exact flat (u := .lst xs) trivial x
 | tup xs => exact flat (u := .tup xs) trivial x
 | dK kvs => exact flat (u := .dK kvs) trivial x
 | dT kvs => exact flat (u := .dT kvs) trivial x
 | set S k => exact flat (u := .set S k) trivial x
 | xd fs => exact flat (u := .xd fs) trivial x
 | rng a b => exact flat (u := .rng a b) trivial x
 | tbl ps => exact flat (u := .tbl ps) trivial x
 | met f y => exact flat (u := .met f y) trivial x
end
def gX (P : Program) (w : World) (K : PySem.W.Frag) (mg : Str → Option Value) (base : Heap) (outer : List Env) (N : List Str) (env : Env) (Aw : Around) : Cx where
 prog := P
 w := w
 K := K
 mg := mg
 base := base
 A := Aw.deeper env
 N := N
 s_0 := {}
 H_0 := fun _ => none
 env := env
 outer := outer
 stack := env :: outer
 ex := []
 fn := fun _ => true
 calm := true
 pn := []
 xe := fun _ _ => False
section
variable {X : Cx} {pins : List (Addr × Obj)} {σ : L2.St} {H : Hp} {s : Shared}
end
open Classical in
noncomputable def yng (h : Heap) (L : Nat) (p : Addr → Prop) : List (Addr × Obj) := (List.range h.objs.size).filterMap fun b => match h.get? b with
 | some o => if L ≤ b ∧ p b ∧ (∀ v, o.data ≠ .cell v) then some (b, o) else none
 | none => none
theorem mem_yng {h : Heap} {L : Nat} {p : Addr → Prop} {b : Addr} {o : Obj} (e : h.get? b = some o) (hL : L ≤ b) (hp : p b) (hd : ∀ v, o.data ≠ .cell v) : (b, o) ∈ yng h L p := by
 refine List.mem_filterMap.mpr ⟨b, List.mem_range.mpr (Heap.lt_size e), ?_⟩
 rw [e]
 exact if_pos ⟨hL, hp, hd⟩
open Classical in
theorem of_yng {h : Heap} {L : Nat} {p : Addr → Prop} {q : Addr × Obj} (hq : q ∈ yng h L p) : L ≤ q.1 ∧ p q.1 ∧ h.get? q.1 = some q.2 ∧ ∀ v, q.2.data ≠ .cell v := by
 obtain ⟨b, _, e⟩ := List.mem_filterMap.mp hq
 cases z : h.get? b with
 | none => rw [z] at e; cases e
 | some o =>
   rw [z] at e
   by_cases c : L ≤ b ∧ p b ∧ (∀ v, o.data ≠ .cell v)
   · have e' : (if L ≤ b ∧ p b ∧ (∀ v, o.data ≠ .cell v) then some (b, o) else none) = some q := e
     rw [if_pos c] at e'; cases e'
     exact ⟨c.1, c.2.1, z, c.2.2⟩
   · have e' : (if L ≤ b ∧ p b ∧ (∀ v, o.data ≠ .cell v) then some (b, o) else none) = some q := e
     rw [if_neg c] at e'; cases e'
end G
namespace G
open PySem PySem.Spec PyProof.Rows L2 GenW
structure Dd (h h' : Heap) : Prop where
 sz : h.objs.size ≤ h'.objs.size
 dead : ∀ b, b < h.objs.size → h.get? b = none → h'.get? b = none
theorem Dd.refl (h : Heap) : Dd h h := ⟨Nat.le_refl _, fun _ _ e => e⟩
theorem Dd.trans {a b c : Heap} (x : Dd a b) (y : Dd b c) : Dd a c := ⟨Nat.le_trans x.sz y.sz, fun d l e => y.dead d (Nat.lt_of_lt_of_le l x.sz) (x.dead d l e)⟩
open Classical in
noncomputable def hideM (H : Hp) (M : List Addr) : Hp := fun b => if b ∈ M then none else H b
theorem hide_in {H : Hp} {M : List Addr} {b : Addr} (h : b ∈ M) : hideM H M b = none := if_pos h
theorem hide_out {H : Hp} {M : List Addr} {b : Addr} (h : b ∉ M) : hideM H M b = H b := if_neg h
open Classical in
noncomputable def mix (A B : Hp) : Hp := fun b => match A b with
 | some o => some o
 | none => match B b with
   | some o => if Exp o then some o else none
   | none => none
section
variable {A B : Hp} {b : Addr} {o : HO}
theorem mix_l (h : A b = some o) : mix A B b = some o := by unfold mix; rw [h]
theorem mix_r (h : A b = none) (h2 : B b = some o) (e : Exp o) : mix A B b = some o := by
 unfold mix
 rw [h, h2]
 exact if_pos e
theorem mix_nr (h : A b = none) (h2 : ∀ o, B b = some o → ¬ Exp o) : mix A B b = none := by
 unfold mix
 rw [h]
 cases z : B b with
 | none => rfl
 | some o => exact if_neg (h2 o z)
theorem mix_n (h : A b = none) (h2 : B b = none) : mix A B b = none := mix_nr h fun o z => by rw [h2] at z; cases z
theorem of_mix (h : mix A B b = some o) : A b = some o ∨ (A b = none ∧ B b = some o ∧ Exp o) := by
 cases z : A b with
 | some o' => rw [mix_l z] at h; exact .inl h
 | none =>
   refine .inr ⟨rfl, ?_⟩
   cases y : B b with
   | none => rw [mix_n z y] at h; cases h
   | some o' =>
     by_cases e : Exp o'
     · rw [mix_r z y e] at h; cases h; exact ⟨rfl, e⟩
     · rw [mix_nr z (fun o2 q => by rw [y] at q; cases q; exact e)] at h; cases h
theorem mix_none (h : mix A B b = none) : A b = none := by
 cases z : A b with
 | none => rfl
 | some o => rw [mix_l z] at h; cases h
theorem exp_nc {H H' : Hp} (e : Exp o) : NCo H H' b o := by
 cases o with
 | tup _ => trivial
 | frz ob u => cases u <;> first | exact .inl trivial | exact e.elim
 | _ => exact e.elim
theorem chg_mix {M : List Addr} : Chg M A (mix A B) :=
 ⟨fun b o h _ => mix_l h, fun b h => mix_none h, fun a C dx fs h => ⟨fs, mix_l h⟩, fun b o h => (of_mix h).imp id fun q => exp_nc q.2.2⟩
end
theorem obj_own {P : Program} {w : World} {H : Hp} {h : Heap} {a dx : Addr} {o : HO} (x : ObjOk P w H h a o) (e : insOf o = some dx) : H dx = some (.own a) := by
 induction o with
 | ins C d fs =>
   obtain ⟨q, _⟩ := x
   have z : d = dx := Option.some.inj e
   rw [← z]; exact q
 | frz ob u ih => exact ih x.2 e
 | _ => cases e
theorem exp_stays {fs ex : List Addr} {H H' : Hp} {h h' : Heap} (u : Un fs ex H H' h h') {b : Addr} {o : HO} (e : Exp o) (q : H b = some o) : H' b = some o := by
 cases o with
 | tup xs => exact u.tups b xs q
 | frz ob v => exact u.frzs b ob v q
 | _ => exact e.elim
structure Sd (X : Cx) (env : Env) (H1 : Hp) (M : List Addr) (pins : List (Addr × Obj)) : Prop where
 cX : ∀ x c, X.env.cells.lookup x = some c → c < env.locals
 cG : env.cells = []
 lt : ∀ b o, H1 b = some o → b < env.locals
 fr : ∀ b ∈ frs X.stack, b < env.locals
 xl : X.env.locals < env.locals
 pl : ∀ p ∈ X.pn ++ pins, p.1 < env.locals
structure Rel (env : Env) (H1 : Hp) (M : List Addr) (Hg Hc : Hp) : Prop where
 mm : ∀ b ∈ M, Hg b = none
 gg : Chg [] (hideM H1 M) Hg
 cc : Chg M H1 Hc
 ol : ∀ b, b < env.locals → Hc b = none → Hg b = none
 sh : ∀ b o, H1 b = none → Hg b = some o → Hc b = none ∨ (Hc b = some o ∧ Exp o)
 fm : ∀ b ∈ M, ∃ o, Hc b = some o ∧ Flt o
 dm : ∀ b ∈ M, ∃ o, H1 b = some o
theorem Rel.old {env : Env} {H1 : Hp} {M : List Addr} {Hg Hc : Hp} (R : Rel env H1 M Hg Hc) {b : Addr} {o : HO} (h : H1 b = some o) (m : b ∉ M) : Hg b = some o ∧ Hc b = some o :=
 ⟨R.gg.keep b o (by rw [hide_out m]; exact h) (.inl List.not_mem_nil), R.cc.keep b o h (.inl m)⟩
theorem Rel.cnew {env : Env} {H1 : Hp} {M : List Addr} {Hg Hc : Hp} (R : Rel env H1 M Hg Hc) {b : Addr} {o : HO} (h : H1 b = none) (q : Hc b = some o) : NCo H1 Hc b o := by
 rcases R.cc.new b o q with z | z
 · rw [h] at z; cases z
 · exact z
end G
namespace G
open PySem PySem.Spec PyProof.Rows L2 GenW
section
variable {X : Cx} {N : List Str} {env : Env} {Aw : Around} {q n : Nat} {it : Nat → V → Hp → Prop} {H1 Hg Hc Hy Hs : Hp} {M : List Addr} {pins ip ip' : List (Addr × Obj)} {σ σg σ' : L2.St} {s so sy : Shared} {g0 : Addr × Obj}
abbrev FF (X : Cx) (N : List Str) (env : Env) (Aw : Around) (q n : Nat) (it : Nat → V → Hp → Prop) (Hs : Hp) (g0 : Addr × Obj) : GF := ⟨gX X.prog X.w X.K X.mg X.base X.stack N env Aw, q, n, it, Hs, g0⟩
noncomputable def toStand (h : Heap) (env : Env) (Hg : Hp) (ip : List (Addr × Obj)) : List (Addr × Obj) := yng h (env.locals + 1) fun b => Hg b = none ∧ ∀ p ∈ ip, p.1 ≠ b
def Own (env : Env) (Hc : Hp) (ip : List (Addr × Obj)) : Prop := Hc env.locals = none ∧ ∀ p ∈ ip, env.locals ≤ p.1 ∧ Hc p.1 = none
open Classical in
theorem filt (n : Nat) (p : Nat → Prop) : ∃ l : List Nat, ∀ b, b ∈ l ↔ (b < n ∧ p b) :=
 ⟨(List.range n).filter fun b => decide (p b), fun b => by rw [List.mem_filter, List.mem_range, decide_eq_true_iff]⟩
theorem taken (S : Sd X env H1 M pins) (I : Inv X pins σ Hc s) (R : Rel env H1 M Hg Hc) (O : Own env Hc ip) (hh : so.heap = s.heap) (hos : so.os = s.os)
   (J : Inv ((FF X N env Aw q n it Hs g0).at so (Hg, toStand s.heap env Hg ip)) ip' σ' Hy sy) (hc : Chg [] (hideM H1 M) Hy) (ho : IpOk (FF X N env Aw q n it Hs g0) (Hg, toStand s.heap env Hg ip) so ip') (hd : Dd s.heap sy.heap) :
   Inv X pins σ (mix Hc Hy) sy ∧ Rel env H1 M Hy (mix Hc Hy) ∧ (∀ b o, Hy b = some o → Exp o → mix Hc Hy b = some o) ∧ Own env (mix Hc Hy) ip' := by
 have fcut : ∀ {b : Addr} {o : Obj}, b < env.locals → s.heap.get? b = some o → ((FF X N env Aw q n it Hs g0).at so (Hg, toStand s.heap env Hg ip)).s_0.heap.get? b = some o := fun {b o} hb e => by
   show (cutH so.heap env.locals).get? b = some o
   rw [hh, cutH_get hb]; exact e
 have stand : ∀ {b : Addr} {o : Obj}, ¬ b < env.locals → s.heap.get? b = some o → b ≠ env.locals → Hg b = none → (∀ p ∈ ip, p.1 ≠ b) → (∀ v, o.data ≠ .cell v) → sy.heap.get? b = some o ∧ Hy b = none ∧ (b, o) ∈ toStand s.heap env Hg ip := fun {b o} hb e hl hg hi hd => by
   have m : (b, o) ∈ toStand s.heap env Hg ip := mem_yng e (Nat.succ_le_of_lt (Nat.lt_of_le_of_ne (Nat.le_of_not_lt hb) (Ne.symm hl))) ⟨hg, hi⟩ hd
   obtain ⟨q1, q2, _⟩ := J.pin (b, o) (List.mem_append_left _ m)
   exact ⟨q1, q2, m⟩
 have nfr : ∀ {b : Addr} {o : HO}, Hc b = some o → b ∉ frs X.stack := fun {b o} e z => by rw [I.stkFree b z] at e; cases e
 have keepLo : ∀ {b : Addr} {o : Obj}, b < env.locals → Hg b = none → b ∉ frs X.stack → s.heap.get? b = some o → sy.heap.get? b = some o := fun {b o} hb hg hf e => J.base.keep b o (fcut hb e) hg hf List.not_mem_nil
 -- a thing that the caller alone knows stands
 have alone : ∀ {b : Addr} {o : HO}, H1 b = none → Hc b = some o → Hg b = none → (∀ u, s.heap.get? b = some u → sy.heap.get? b = some u) ∧ Hy b = none := fun {b o} h1 hcb hg => by
   obtain ⟨ob, e⟩ := obj_at (I.hok b o hcb)
   by_cases hb : b < env.locals
   · refine ⟨fun u e => keepLo hb hg (nfr hcb) e, J.base.free b ob (fcut hb e) hg List.not_mem_nil⟩
   · have nc := obj_nc I.hok (I.hok b o hcb) (R.cnew h1 hcb) e
     obtain ⟨q1, q2, _⟩ := stand hb e (fun z => by rw [z, O.1] at hcb; cases hcb) hg (fun p hp z => by rw [← z, (O.2 p hp).2] at hcb; cases hcb) nc
     exact ⟨fun u e' => by rw [e] at e'; cases e'; exact q1, q2⟩
 -- both know the same
 have agree : ∀ {b : Addr} {o oc : HO}, Hy b = some o → Hc b = some oc → oc = o ∧ (H1 b = none → Exp o) := fun {b o oc} hy hcb => by
   cases h1 : H1 b with
   | some o1 =>
     by_cases m : b ∈ M
     · have := (hide_in (H := H1) m)
       obtain ⟨ob, e⟩ := obj_at (I.hok b oc hcb)
       have z := J.base.free b ob (fcut (S.lt b o1 h1) e) (R.mm b m) List.not_mem_nil
       rw [hy] at z; cases z
     · have z1 := (R.old h1 m).2
       have z2 := hc.keep b o1 (by rw [hide_out m]; exact h1) (.inl List.not_mem_nil)
       rw [hcb] at z1; rw [hy] at z2
       exact ⟨(Option.some.inj z1).trans (Option.some.inj z2).symm, fun z => nomatch z⟩
   | none =>
     cases hg : Hg b with
     | none =>
       rw [(alone h1 hcb hg).2] at hy; cases hy
     | some og =>
       rcases R.sh b og h1 hg with z | ⟨z, ex⟩
       · rw [hcb] at z; cases z
       · have y := exp_stays J.base ex hg
         rw [hcb] at z; rw [hy] at y
         cases z; cases y
         exact ⟨rfl, fun _ => ex⟩
 have four : ∀ b o, Hy b = some o → Exp o → mix Hc Hy b = some o := fun b o hy ex => by
   cases hcb : Hc b with
   | none => exact mix_r hcb hy ex
   | some oc => rw [mix_l hcb, (agree hy hcb).1]
 have ht1 : ∀ b xs, Hc b = some (.tup xs) → mix Hc Hy b = some (.tup xs) := fun b xs h => mix_l h
 have ht2 : ∀ b xs, Hy b = some (.tup xs) → mix Hc Hy b = some (.tup xs) := fun b xs h => four b _ h trivial
 have hok : HOk X.prog X.w (mix Hc Hy) sy.heap := fun b o hm => by
   rcases of_mix hm with hcb | ⟨hcb, hy, ex⟩
   · have x0 := I.hok b o hcb
     cases h1 : H1 b with
     | some o1 =>
       by_cases m : b ∈ M
       · obtain ⟨o', hf, fl⟩ := R.fm b m
         rw [hcb] at hf; cases hf
         refine obj_mv x0 (fun u e => keepLo (S.lt b o1 h1) (R.mm b m) (nfr hcb) e) (fun dx z => ?_) ht1
         rw [flt_ins fl] at z; cases z
       · have z1 := (R.old h1 m).2
         rw [hcb] at z1
         obtain rfl := Option.some.inj z1
         have hy := hc.keep b o (by rw [hide_out m]; exact h1) (.inl List.not_mem_nil)
         exact obj_mv (J.hok b o hy) (fun u e => e) (fun dx z => ⟨fun u e => e, mix_l (obj_own x0 z)⟩) ht2
     | none =>
       cases hg : Hg b with
       | some og =>
         rcases R.sh b og h1 hg with z | ⟨z, ex⟩
         · rw [hcb] at z; cases z
         · rw [hcb] at z; cases z
           have hy := exp_stays J.base ex hg
           refine obj_mv (J.hok b o hy) (fun u e => e) (fun dx z => ?_) ht2
           rw [exp_ins ex] at z; cases z
       | none =>
         refine obj_mv x0 (alone h1 hcb hg).1 (fun dx z => ?_) ht1
         have own := obj_own x0 z
         have nc := R.cnew h1 hcb
         have h1d : H1 dx = none := by
           cases o with
           | ins C d fs =>
             have e : d = dx := Option.some.inj z
             rcases nc with k | ⟨fs', k⟩
             · rw [← e]; exact k
             · rw [h1] at k; cases k
           | frz ob u =>
             rcases nc with nc | ⟨⟨_, rfl⟩, _⟩
             · cases u <;> first | exact nc.elim | cases z
             · cases z
           | _ => cases z
         have hgd : Hg dx = none := by
           cases k : Hg dx with
           | none => rfl
           | some od =>
             rcases R.sh dx od h1d k with y | ⟨y, ex⟩
             · rw [own] at y; cases y
             · rw [own] at y; cases y; exact ex.elim
         exact ⟨(alone h1d own hgd).1, mix_l own⟩
   · refine obj_mv (J.hok b o hy) (fun u e => e) (fun dx z => ?_) ht2
     rw [exp_ins ex] at z; cases z
 -- what may have turned
 obtain ⟨ch, hmem⟩ := filt s.heap.objs.size fun b => env.locals ≤ b ∧ Hc b = none ∧ ∀ o, (b, o) ∉ toStand s.heap env Hg ip
 have nch : ∀ {b : Addr} {o : Obj}, b ∉ ch → s.heap.get? b = some o → ¬ b < env.locals → Hc b = none → ∃ o', (b, o') ∈ toStand s.heap env Hg ip := fun {b ob} hb e hl hcb => by
   refine Classical.byContradiction fun z => hb ?_
   exact (hmem b).mpr ⟨Heap.lt_size e, Nat.le_of_not_lt hl, hcb, fun o2 m => z ⟨o2, m⟩⟩
 have pinned : ∀ {b : Addr} {o o' : Obj}, s.heap.get? b = some o → (b, o') ∈ toStand s.heap env Hg ip → sy.heap.get? b = some o ∧ Hy b = none := fun {b o o'} e m => by
   obtain ⟨_, _, z, _⟩ := of_yng m
   rw [e] at z
   have z' : o = o' := Option.some.inj z
   obtain ⟨q1, q2, _⟩ := J.pin (b, o') (List.mem_append_left _ m)
   exact ⟨by rw [z']; exact q1, q2⟩
 have un : Un (frs X.stack) ch Hc (mix Hc Hy) s.heap sy.heap := by
   refine ⟨fun b o e hcb hf hx => ?_, fun b o e hcb hf hx => ?_, fun b o e hcb hx => ?_, fun b o e hx => ?_, fun b xs h => mix_l h, fun b ob u h => mix_l h, fun b ps h => ⟨#[], by rw [mix_l h]; simp⟩⟩
   · by_cases hb : b < env.locals
     · exact keepLo hb (R.ol b hb hcb) hf e
     · obtain ⟨o', m⟩ := nch hx e hb hcb
       exact (pinned e m).1
   · have hb := S.fr b hf
     exact J.base.slot b o (fcut hb e) (R.ol b hb hcb) hf List.not_mem_nil
   · refine mix_n hcb ?_
     by_cases hb : b < env.locals
     · exact J.base.free b o (fcut hb e) (R.ol b hb hcb) List.not_mem_nil
     · obtain ⟨o', m⟩ := nch hx e hb hcb
       exact (pinned e m).2
   · by_cases hb : b < env.locals
     · exact J.base.there b o (fcut hb e) List.not_mem_nil
     · cases hcb : Hc b with
       | none =>
         obtain ⟨o', m⟩ := nch hx e hb hcb
         exact ⟨o, (pinned e m).1⟩
       | some oc => exact obj_at (hok b oc (mix_l hcb))
 have hxl : X.env.locals < env.locals := S.xl
 have hch : ∀ b ∈ ch, (b ∈ X.ex ∨ X.s_0.heap.objs.size ≤ b) ∧ b ≠ X.env.locals ∧ (∀ x c, X.env.cells.lookup x = some c → c ≠ b) ∧ ∀ p ∈ X.pn ++ pins, p.1 ≠ b := fun b hb => by
   have hl : env.locals ≤ b := ((hmem b).mp hb).2.1
   refine ⟨.inr (Nat.le_trans I.ok.above (Nat.le_trans (Nat.le_of_lt hxl) hl)), Nat.ne_of_gt (Nat.lt_of_lt_of_le hxl hl), fun x c e => Nat.ne_of_lt (Nat.lt_of_lt_of_le (S.cX x c e) hl), fun p hp => Nat.ne_of_lt (Nat.lt_of_lt_of_le (S.pl p hp) hl)⟩
 refine ⟨I.call' (J.os.trans hos) un hok J.bare hch, ⟨fun b m => ?_, hc, R.cc.trans (chg_mix (M := M)), fun b hb hm => ?_, fun b o h1 hy => ?_, fun b m => ?_, R.dm⟩, four, ⟨?_, fun p hp => ?_⟩⟩
 · obtain ⟨o1, h1⟩ := R.dm b m
   obtain ⟨oc, hcb, _⟩ := R.fm b m
   obtain ⟨ob, e⟩ := obj_at (I.hok b oc hcb)
   exact J.base.free b ob (fcut (S.lt b o1 h1) e) (R.mm b m) List.not_mem_nil
 · have hcb := mix_none hm
   cases e : s.heap.get? b with
   | some ob => exact J.base.free b ob (fcut hb e) (R.ol b hb hcb) List.not_mem_nil
   | none =>
     cases hy : Hy b with
     | none => rfl
     | some o =>
       obtain ⟨ob, e2⟩ := obj_at (J.hok b o hy)
       have hsz : b < s.heap.objs.size := by
         have z : env.locals ≤ s.heap.objs.size := by rw [← hh]; exact ho.1.1
         exact Nat.lt_of_lt_of_le hb z
       rw [hd.dead b hsz e] at e2; cases e2
 · cases hcb : Hc b with
   | some oc =>
     obtain ⟨z1, z2⟩ := agree hy hcb
     exact .inr ⟨by rw [mix_l hcb, z1], z2 h1⟩
   | none =>
     by_cases ex : Exp o
     · exact .inr ⟨mix_r hcb hy ex, ex⟩
     · exact .inl (mix_nr hcb fun o' z => by rw [hy] at z; cases z; exact ex)
 · obtain ⟨o, h1, h2⟩ := R.fm b m
   exact ⟨o, mix_l h1, h2⟩
 · exact mix_n O.1 J.free
 · obtain ⟨h1, h2⟩ := ho.2 p hp
   obtain ⟨j1, j2, j3, _, j5⟩ := J.pin p (List.mem_append_right _ hp)
   refine ⟨h1, mix_n ?_ j2⟩
   cases hcb : Hc p.1 with
   | none => rfl
   | some oc =>
     exfalso
     obtain ⟨ob, e⟩ := obj_at (I.hok _ oc hcb)
     have h1n : H1 p.1 = none := by
       cases z : H1 p.1 with
       | none => rfl
       | some o1 => exact absurd (S.lt _ o1 z) (Nat.not_lt_of_le h1)
     cases hg : Hg p.1 with
     | some og =>
       rcases R.sh _ og h1n hg with z | ⟨z, ex⟩
       · rw [hcb] at z; cases z
       · rw [exp_stays J.base ex hg] at j2; cases j2
     | none =>
       have nc := obj_nc I.hok (I.hok _ oc hcb) (R.cnew h1n hcb) e
       obtain ⟨_, _, m⟩ := stand (Nat.not_lt_of_le h1) e j3 hg (fun p0 hp0 z => by rw [← z, (O.2 p0 hp0).2] at hcb; cases hcb) nc
       exact h2 _ m rfl
end
end G
namespace G
open PySem PySem.Spec PyProof.Rows L2 GenW
end G
namespace G
open PySem PySem.Spec PyProof.Rows L2 GenW
abbrev SpY := List V → Hp → Nat → (Nat → V → Hp → Prop) → Prop
end G
namespace G
open PySem PySem.Spec PyProof.Rows L2 GenW
section
variable {X : Cx} {N : List Str} {env : Env} {Aw : Around} {q n : Nat} {it : Nat → V → Hp → Prop} {H1 : Hp} {M : List Addr} {pins : List (Addr × Obj)} {σ : L2.St} {s s' : Shared} {vs : List V}
end
end G
namespace G
open PySem PySem.Spec PyProof.Rows L2 GenW
end G
namespace Mi
end Mi
namespace G
open PySem PySem.Spec PyProof.Rows L2 GenW
section
variable {K : PySem.W.Frag} {σ σ' : L2.St} {H H1 : Hp} {F : GF} {F1 F2 M : List Addr} {v u x : V} {α β : Type} {τ : Ty β} {te : TE} {ta : TA} {D : Ends} {t1 t2 tb : TS} {gt : TG} {sp : SpY} {vs : List V} {tot : List β}
end
end G
namespace PySem
namespace ErrI_leg
open PySem.W PySem.Calls PyProof.Rows PySem.HandSPX
open PySem.ErrX (ldX one_size)
section
variable {prog : Program} {w : World} {A : Around} {E : Value → Shared → Prop} {R : Result → Shared → Prop} {s : Shared} {K : Frag} {mg mb : Str → Option Value} {C fI : Addr} {cn qual : Str} {st : Stmt}
end
end ErrI_leg
end PySem
namespace L2
open PySem PySem.Spec PyProof.Rows
section
variable {X : Cx} {C fI : Addr} {cn qual : Str} {st : Stmt}
end
end L2
namespace G
open PySem PySem.Spec PyProof.Rows L2
section
variable {K : PySem.W.Frag} {σ : L2.St} {H : Hp} {Q : VK} {C : Addr} {D : Ends} {t2 : TS} {te : TE} {a dd : Addr} {fs : List (Str × V)}
end
end G
namespace G
open PySem PySem.Spec PyProof.Rows L2
section
variable {K : PySem.W.Frag} {H : Hp} {Q : VK} {F : List Addr} {v : V} {α : Type} {τ : Ty α}
end
end G
namespace G
open PySem PySem.Spec PyProof.Rows L2
section
variable {K : PySem.W.Frag} {σ : L2.St} {H : Hp} {Q : VK} {C : Addr} {te : TE} {a dd : Addr} {fs : List (Str × V)}
end
end G
namespace G
open PySem PySem.Spec PyProof.Rows L2
end G
namespace G
open PySem PySem.Spec PyProof.Rows L2
def yAny : Ty Unit := ⟨fun _ _ F _ _ => F = [], fun r _ => r, fun r b h => by subst r; cases h⟩
end G
namespace G
open PySem PySem.Spec PyProof.Rows L2
def frL (L : List Addr) (g : Addr → Option Obj) : PySem.W.Frag := He.frG g (L ++ [cStatics])
end G
namespace G
open PySem PySem.Spec PyProof.Rows L2
end G
namespace G
open PySem PySem.Spec PyProof.Rows L2
section
variable {K : PySem.W.Frag} {σ : L2.St} {H : Hp} {Q : VK} {v w : V} {α β γ : Type} {τ : Ty α} {υ : Ty β} {ω : Ty γ} {g : TG} {tt : TT} {te : TE} {ws : List Nat}
end
end G
namespace Mi
end Mi
namespace L2
open G (Lst lst_ok)
open PySem PySem.Spec PyProof.Rows
end L2
namespace G
open PySem PySem.Spec PyProof.Rows L2
section
variable {K : PySem.W.Frag} {H : Hp} {Q : VK} {v u : V}
end
end G
namespace G
open PySem PySem.Spec PyProof.Rows L2
section
variable {X : Cx} {e b : Expr} {te tb : TE} {i : Nat} {x : Str} {p q rest : List Stmt} {t u tr : TS} {p1 p2 p3 p4 : Pos}
end
section
variable {K : PySem.W.Frag} {H : Hp} {Q : VK} {v : V}
end
end G
namespace G
open PySem PySem.Spec PyProof.Rows L2
def yRt (us : List V) : Ty Unit where
 rep K H F v _ := ∃ a, v = .ref a ∧ F = [] ∧ SqT K H a us
 keep h k := by
   obtain ⟨a, e, f, s⟩ := h
   exact ⟨a, e, f, SqT.keeps s fun b o hb z => k b o hb (.inr z)⟩
 dom h b m := by obtain ⟨a, e, rfl, s⟩ := h; cases m
section
variable {K : PySem.W.Frag} {σ : L2.St} {H : Hp} {Q : VK} {v u : V} {F : List Addr} {α β : Type} {τ : Ty α}
theorem val_rt {us : List V} {n : Nat} {x : Unit} {ta tb : TE} (r : (yRt us).rep K H F v x) (h : us[n]? = some u) (ha : Val ta σ H v) (hb : Val tb σ H (.int (n : Int))) : Val (tOp (rIxT K) ta tb) σ H u := by
 obtain ⟨p, rfl, rfl, g⟩ := r
 exact val_op ha hb fun Q q => ⟨p, us, n, u, rfl, rfl, g, atI_nat h, q⟩
def yNd {α : Type} (τ : Ty α) : Ty α where
 rep K H F v d := τ.rep K H F v d ∧ F.Nodup
 keep h k := ⟨τ.keep h.1 k, h.2⟩
 dom h b m := τ.dom h.1 b m
theorem nd_app {F G : List Addr} (a : F.Nodup) (b : G.Nodup) (d : Dj F G) : (F ++ G).Nodup := List.nodup_append.mpr ⟨a, b, fun x hx y hy e => d x hx (e ▸ hy)⟩
theorem nd_t3 {τ1 : Ty α} {τ2 : Ty β} {d : Int × α × β} (r : (yNd (yTup (sCons yInt (sCons τ1 (sOne τ2))))).rep K H F v d) : ∃ u1 u2 F1 F2, (yRt [.int d.1, u1, u2]).rep K H [] v () ∧ τ1.rep K H F1 u1 d.2.1 ∧ τ2.rep K H F2 u2 d.2.2 ∧ (∀ a ∈ F1, a ∈ F) ∧ (∀ a ∈ F2, a ∈ F) ∧ Dj F1 F2 := by
 obtain ⟨⟨a, vs, rfl, s, v1, ws, F0, F3, rfl, rfl, ⟨rfl, rfl⟩, v2, ws2, F1, F2, rfl, rfl, r1, v3, rfl, r2⟩, nd⟩ := r
 refine ⟨v2, v3, F1, F2, ⟨a, rfl, rfl, s⟩, r1, r2, fun a h => List.mem_append_right _ (List.mem_append_left _ h), fun a h => List.mem_append_right _ (List.mem_append_right _ h), fun a h1 h2 => ?_⟩
 exact (List.nodup_append.mp (List.nodup_append.mp nd).2.1).2.2 a h1 a h2 rfl
end
end G
namespace G
open PySem PySem.Spec PyProof.Rows L2
section
variable {K : PySem.W.Frag} {σ : L2.St} {H : Hp} {Q : VK} {v u : V} {F F2 : List Addr} {α : Type} {τ : Ty α} {n : Nat} {i : Int}
end
end G
namespace L2
open PySem PySem.Spec PyProof.Rows
def DictB (P : Program) (w : World) (h : Heap) (a : Addr) (xs : List (List Key × Addr × Value)) : Prop := xs.length ≤ sizeLine ∧ (a == sysModules) = false ∧
 ∃ (o : Obj) (es : Array DictEntry) (ep : Nat), h.get? a = some o ∧ o.ExactDict ∧ o.data = .dict es ep ∧ es.toList = xs.map (entryOfKey (tupleKind (mixKind P w))) ∧ (xs.map (·.1)).Nodup
def DictBO (P : Program) (w : World) (a : Addr) (xs : List (List Key × Addr × Value)) : HO := .ext fun h => DictB P w h a xs
section
variable {X : Cx} {pins : List (Addr × Obj)} {σ : St} {H : Hp} {s : Shared} {a b : Addr} {xs : List (List Key × Addr × Value)} {k : List Key}
end
section
variable {X : Cx}
end
section
variable {X : Cx}
end
section
variable {prog : Program} {w : World} {A : Around} {R : Result → Shared → Prop} {s : Shared} {elt t0 i0 t1 i1 : Expr} {ifs0 ifs1 : List Expr} {scope : Scope} {pos : Pos} {it acc : Value} {env : Env}
end
section
variable {X : Cx}
end
end L2
namespace L2
open PySem PySem.Spec PyProof.Rows
section
variable {X : Cx} {pins : List (Addr × Obj)} {σ : St} {H : Hp} {s : Shared} {d : Addr} {o : Obj} {xs : List (List Key × Addr × Value)}
end
section
variable {P : Program} {w : World} {K : PySem.W.Frag} {tg : Expr} {d : Addr} {o : Obj} {es : Array DictEntry} {ep : Nat} {xs : List (List Key × Addr × Value)} {vs : List V}
end
section
variable {X : Cx} {P : Program} {w : World} {K : PySem.W.Frag} {tg e : Expr} {td : TE} {apos cpos : Pos}
end
section
variable {X : Cx} {P : Program} {w : World} {K : PySem.W.Frag} {td : TE} {pos : Pos}
end
end L2
namespace G
open PySem PySem.Spec PyProof.Rows L2
abbrev Ent := List L2.Key × Addr × Value
def kk (x : Int × Int) : List L2.Key := [.inl x.1, .inl x.2]
section
variable {K : PySem.W.Frag} {H H' : Hp} {β γ : Type} {υ : Ty β} {q : Ent} {x : (Int × Int) × β}
def EntR (K : PySem.W.Frag) (H : Hp) (υ : Ty β) (q : Ent) (x : (Int × Int) × β) : Prop := q.1 = kk x.1 ∧ SqT K H q.2.1 ((kk x.1).map kV) ∧ ∃ v, RelV v q.2.2 ∧ υ.rep K H [] v x.2
theorem EntR.keep (r : EntR K H υ q x) (k : ∀ b o, H b = some o → Froz o → H' b = some o) : EntR K H' υ q x := by
 obtain ⟨e, s, v, rv, r⟩ := r
 exact ⟨e, SqT.keeps s k, v, rv, υ.keep r fun b o hb z => k b o hb (z.elim (fun y => nomatch y) id)⟩
theorem EntR.chg {M : List Addr} (r : EntR K H υ q x) (c : Chg M H H') : EntR K H' υ q x := r.keep fun b o h z => c.keep b o h (.inr z)
end
def yFd {β : Type} (P : Program) (w : World) (υ : Ty β) : Ty (List ((Int × Int) × β)) where
 rep K H F v d := F = [] ∧ ∃ a o xs, v = .ref a ∧ H a = some (.frz o (DictBO P w a xs)) ∧ Paired (EntR K H υ) xs d
 keep {K H H' F v d} h k := by
   obtain ⟨f, a, o, xs, e, g, r⟩ := h
   exact ⟨f, a, o, xs, e, k a _ g (.inr trivial), Paired.mapP r fun _ _ z => EntR.keep z fun b o hb f => k b o hb (.inr f)⟩
 dom {K H F v d} h b m := by rw [h.1] at m; cases m
section
variable {P : Program} {w : World} {K : PySem.W.Frag} {σ σ' : L2.St} {H H' : Hp} {F Fk Fu D0 : List Addr} {ta tb te tk tv : TE} {tt : TT} {v u z : V} {α β γ : Type} {τ : Ty α} {υ : Ty β} {Q : VK} {D : Ends} {g : TG} {ws : List Nat} {xs : List Ent} {d d' : List ((Int × Int) × β)} {k : Int × Int} {x : β}
end
structure FdAt {β : Type} (P : Program) (w : World) (υ : Ty β) (K : PySem.W.Frag) (a : Addr) (o : Obj) (xs : List Ent) (d : List ((Int × Int) × β)) (H : Hp) : Prop where
 g : H a = some (.frz o (DictBO P w a xs))
 ps : Paired (EntR K H υ) xs d
theorem FdAt.of {β : Type} {P : Program} {w : World} {υ : Ty β} {K : PySem.W.Frag} {H : Hp} {F : List Addr} {v : V} {d : List ((Int × Int) × β)} (r : (yFd P w υ).rep K H F v d) : ∃ a o xs, v = .ref a ∧ FdAt P w υ K a o xs d H := by
 obtain ⟨f, a, o, xs, e, g, ps⟩ := r
 exact ⟨a, o, xs, e, g, ps⟩
theorem FdAt.chg {β : Type} {P : Program} {w : World} {υ : Ty β} {K : PySem.W.Frag} {a : Addr} {o : Obj} {xs : List Ent} {d : List ((Int × Int) × β)} {M : List Addr} {H H' : Hp} (r : FdAt P w υ K a o xs d H) (c : Chg M H H') : FdAt P w υ K a o xs d H' := ⟨c.keep _ _ r.g (.inr trivial), Paired.mapP r.ps fun _ _ z => z.chg c⟩
section
variable {P : Program} {w : World} {K : PySem.W.Frag} {σ σ' : L2.St} {H H' H0 : Hp} {F Fk Fu M0 : List Addr} {ta tb te tk tv : TE} {tt : TT} {v u z : V} {α β γ : Type} {τ : Ty α} {υ : Ty β} {ω : Ty γ} {Q : VK} {D : Ends} {g : TG} {ws : List Nat} {xs : List Ent} {d d' : List ((Int × Int) × β)} {k : Int × Int} {x : β}
def CompA (init : Addr → HO) (J : It) (T : (Hp → Prop) → Addr → V → Hp → Prop) (H : Hp) (Q : VK) : Prop := ∀ D, H D = none → ∃ W : Nat → Nat → Hp → Prop, (∃ m, W 0 m (upd H D (init D))) ∧ ∀ i m H, W i m H →
 (J.stop i H ∧ Q (.ref D) H) ∨ (J.go i H ∧ ∃ N : Hp → Prop, (∀ H', N H' → ∃ m', m' < m ∧ W (i + 1) m' H') ∧ ∀ x H', J.yld i H x H' → T N D x H')
theorem compA_by {init : Addr → HO} {J : It} {T : (Hp → Prop) → Addr → V → Hp → Prop} (n : Nat) (Pv : Addr → Nat → Hp → Prop) (h0 : ∀ D, H D = none → Pv D 0 (upd H D (init D)))
   (hs : ∀ D i H', i < n → Pv D i H' → J.go i H' ∧ ∀ x H2, J.yld i H' x H2 → T (Pv D (i + 1)) D x H2) (hd : ∀ D H', H D = none → Pv D n H' → J.stop n H' ∧ Q (.ref D) H') : CompA init J T H Q := by
 intro D hD
 refine ⟨fun i m H' => m = n - i ∧ i ≤ n ∧ Pv D i H', ⟨n, by omega, Nat.zero_le _, h0 D hD⟩, ?_⟩
 rintro i m H' ⟨rfl, hi, p⟩
 by_cases hlt : i < n
 · obtain ⟨h1, h2⟩ := hs D i H' hlt p
   exact .inr ⟨h1, Pv D (i + 1), fun H2 p' => ⟨n - (i + 1), by omega, rfl, hlt, p'⟩, h2⟩
 · obtain rfl : i = n := by omega
   exact .inl (hd D H' hD p)
def SqA (τ : Ty (List γ)) (ω : Ty γ) : Prop := ∀ {K : PySem.W.Frag} {H : Hp} {F : List Addr} {v : V} {xs : List γ}, τ.rep K H F v xs → ∃ a vs, v = .ref a ∧ SqL K H a vs ∧ Paired (fun u x => ω.rep K H [] u x) vs xs
theorem sq_lst : SqA (yLst ω) ω := fun r => lst_sq r
theorem kA_sq {τs : Ty (List γ)} (S : SqA τs ω) {init : Addr → HO} {T : (Hp → Prop) → Addr → V → Hp → Prop} {xs : List γ} (r : τs.rep K H F v xs) (Pv : Addr → Nat → Hp → Prop) (h0 : ∀ D, H D = none → Pv D 0 (upd H D (init D))) (hl : ∀ D i H', Pv D i H' → τs.rep K H' F v xs)
   (hs : ∀ D (i : Nat) (x : γ) (u : V) H', xs[i]? = some x → ω.rep K H' [] u x → Pv D i H' → T (Pv D (i + 1)) D u H') (hd : ∀ D H', H D = none → Pv D xs.length H' → Q (.ref D) H') :
   ∃ a, v = .ref a ∧ (∃ xs, SqL K H a xs) ∧ CompA init (Itl K a) T H Q := by
 obtain ⟨a, vs, e, s, q⟩ := S r
 refine ⟨a, e, ⟨vs, s⟩, compA_by xs.length Pv h0 (fun D i H' hi p => ?_) (fun D H' hD p => ?_)⟩
 · obtain ⟨a', vs', e', s', q'⟩ := S (hl D i H' p)
   obtain rfl : a = a' := by rw [e] at e'; exact V.ref.inj e'
   obtain ⟨u, hu, ru⟩ := pr_get q' (List.getElem?_eq_getElem hi)
   refine ⟨⟨vs', u, s', hu⟩, fun x H2 y => ?_⟩
   obtain ⟨rfl, y⟩ := y
   obtain rfl : x = u := Option.some.inj ((y _ s').symm.trans hu)
   exact hs D i _ _ _ (List.getElem?_eq_getElem hi) ru p
 · obtain ⟨a', vs', e', s', q'⟩ := S (hl D _ H' p)
   obtain rfl : a = a' := by rw [e] at e'; exact V.ref.inj e'
   exact ⟨⟨vs', s', by rw [pr_len q']; exact Nat.le_refl _⟩, hd D H' hD p⟩
end
end G
namespace L2
open PySem PySem.Spec PyProof.Rows
section
variable {X : Cx}
end
end L2
namespace G
open PySem PySem.Spec PyProof.Rows L2
section
variable {P : Program} {w : World} {K : PySem.W.Frag} {σ σ' : L2.St} {H H' : Hp} {F Fk Fu : List Addr} {ta tb te : TE} {tt tt1 : TT} {v u z : V} {α β γ : Type} {τ : Ty α} {υ : Ty β} {ω : Ty γ} {Q : VK} {g g1 : TG} {ws ws1 : List Nat} {xs ys : List (Int × Int)} {d : Int × Int}
end
end G
namespace G
open PySem PySem.Spec PyProof.Rows L2
section
variable {P : Program} {w : World} {K : PySem.W.Frag} {σ σ' : L2.St} {H H' : Hp} {F Fk Fu : List Addr} {ta : TA} {te : TE} {tt : TT} {v u z : V} {α β γ : Type} {τ : Ty α} {υ : Ty β} {ω : Ty γ} {Q : VK} {D : Ends} {g : TG} {ws : List Nat}
end
end G
namespace G
open PySem PySem.Spec PyProof.Rows L2
section
variable {P : Program} {w : World} {K : PySem.W.Frag} {σ σ' : L2.St} {H H' : Hp} {F Fk Fu : List Addr} {ta : TA} {te : TE} {tt : TT} {v u z : V} {α β γ : Type} {τ : Ty α} {υ : Ty β} {ω : Ty γ} {Q : VK} {D : Ends} {g : TG} {ws : List Nat}
end
end G
namespace G
open PySem PySem.Spec PyProof.Rows L2
end G
namespace G
open PySem PySem.Spec PyProof.Rows L2
section
variable {P : Program} {w : World} {K : PySem.W.Frag} {σ σ' : L2.St} {H H' : Hp} {F Fi Fk Fu : List Addr} {ta tb : TE} {v u z : V} {α β γ : Type} {τ : Ty α} {i : Int} {Q : VK}
end
end G
namespace G
open PySem PySem.Spec PyProof.Rows L2
end G
namespace G
open PySem PySem.Spec PyProof.Rows L2
end G
namespace L2
open PySem PySem.Spec PyProof.Rows ItX
section
variable {X : Cx} {C f : Addr} {fd : FuncData} {k : Nat} {ps : List Str} {sp : Sp}
end
end L2
namespace G
open PySem PySem.Spec PyProof.Rows L2
section
variable {X : Cx} {K : PySem.W.Frag} {σ : L2.St} {H : Hp} {F : List Addr} {v x y : V} {Q : VK} {C : Addr} {ns : List Str} {α β : Type} {ts : Tys β} {τ : Ty α} {te ta tb : TE} {tm : Str → TS} {D : Ends} {a : List Nat}
end
end G
namespace G
open PySem PySem.Spec PyProof.Rows L2
section
variable {X : Cx} {K : PySem.W.Frag} {σ : L2.St} {H : Hp} {F F2 : List Addr} {v u : V} {Q : VK} {α β : Type} {τ : Ty α} {xs ys zs : List α} {lo hi : Option Int}
end
end G
namespace PySem
namespace ErrI_index
open PySem.W PySem.Calls PyProof.Rows PySem.HandSPX
open PySem.ErrX (ldX one_size)
section
variable {prog : Program} {w : World} {A : Around} {E : Value → Shared → Prop} {R : Result → Shared → Prop} {s : Shared} {K : Frag} {mg mb : Str → Option Value} {C fI : Addr} {cn qual : Str} {st : Stmt}
end
end ErrI_index
end PySem
namespace L2
open PySem PySem.Spec PyProof.Rows
section
variable {X : Cx} {C fI : Addr} {cn qual : Str} {st : Stmt}
end
end L2
namespace G
open PySem PySem.Spec PyProof.Rows L2
section
variable {K : PySem.W.Frag} {σ : L2.St} {H : Hp} {Q : VK} {C : Addr} {D : Ends} {t2 : TS} {te : TE} {a dd : Addr} {fs : List (Str × V)}
end
end G
namespace L2
open PySem PySem.Spec PyProof.Rows
section
variable {X : Cx} {CX : CXT} {k : Nat} {f : Addr} {fd : FuncData} {ps : List Str} {sp : Sp} {dvs : List V} {ds : List Value} {E : St → XK}
end
end L2
namespace G
open PySem PySem.Spec PyProof.Rows L2
end G
namespace G
open PySem PySem.Spec PyProof.Rows L2
section
variable {X : Cx} {K : PySem.W.Frag} {σ : L2.St} {H : Hp} {F : List Addr} {v : V} {Q : VK} {m : Int} {α : Type} {τ : Ty α}
end
end G
namespace G
open PySem PySem.Spec PyProof.Rows L2
end G
namespace G
open PySem PySem.Spec PyProof.Rows L2
end G
namespace G
open PySem PySem.Spec PyProof.Rows L2 GenW
section
variable {F : GF}
end
end G
namespace G
open PySem PySem.Spec PyProof.Rows L2
section
variable {K : PySem.W.Frag} {σ : L2.St} {H : Hp} {F : List Addr} {v : V} {Q : VK} {α β : Type} {τ : Ty α} {υ : Ty β}
end
end G
namespace PySem.SeqAt
open AutoSeq1 (wpAny_loadPart')
open MeetsSeq MeetsSeq2 MeetsSeq3 SeqRoads2
section
variable {prog : Program} {w : World}
end
end PySem.SeqAt
namespace L2
open PySem PySem.Spec PyProof.Rows
section
variable {X : Cx}
end
end L2
namespace G
open PySem PySem.Spec PyProof.Rows L2
section
variable {K : PySem.W.Frag} {σ : L2.St} {H : Hp} {F F1 F2 : List Addr} {v u : V} {Q : VK}
end
end G
namespace G
open PySem PySem.Spec PyProof.Rows L2
end G
namespace G
open PySem PySem.Spec PyProof.Rows L2
end G
namespace G
open PySem PySem.Spec PyProof.Rows L2
section
variable {K : PySem.W.Frag} {σ : L2.St} {H : Hp} {ta tb : TE} {i j r : Int} {Q : VK}
end
section
variable {X : Cx}
end
end G
namespace G
open PySem PySem.Spec PyProof.Rows L2 GenW
section
variable {F : GF}
end
section
variable {K : PySem.W.Frag} {σ : L2.St} {H : Hp} {ta : TE} {i : Int}
end
end G
namespace G
open PySem PySem.Spec PyProof.Rows L2
theorem u1 {n : Nat} (h : n + 64 < cLine) : n + 1 < cLine := by omega
section
variable {K : PySem.W.Frag} {σ : L2.St} {H : Hp} {F : List Addr} {v : V} {Q : VK} {td ty tv tx : TE} {xs ys : List (Int × Int)} {k d z : Int} {t2 : TS} {D : Ends}
end
end G
namespace L2
open PySem PySem.Spec PyProof.Rows
section
variable {X : Cx}
def tScI (K : PySem.W.Frag) (P : Program) (w : World) (wi : TI) (g : TG) (tt : TT) (te : TE) (vs : List Nat) : TE := fun σ H Q => wi σ H fun J H1 => ∀ D, H1 D = none → ∃ W : Nat → Nat → Hp → Prop, (∃ m, W 0 m (upd H1 D (SetO w D (fun _ => false) 0))) ∧ ∀ i m H, W i m H →
 (J.stop i H ∧ Q (.ref D) H) ∨ (J.go i H ∧ ∃ Nx : Hp → Prop, (∀ H', Nx H' → ∃ m', m' < m ∧ W (i + 1) m' H') ∧ ∀ x H', J.yld i H x H' → g x (wipe σ vs) H' fun σ2 H2 => wipe σ2 vs = wipe σ vs ∧ tt σ2 H2 fun b H3 =>
   if b = true then te σ2 H3 fun y H4 => ∃ (k : Int) (S : Int → Bool) (n : Nat), y = .int k ∧ H4 D = some (SetO w D S n) ∧ n + 1 < scanBound ∧ Nx (upd H4 D (SetO w D (fun j => S j || decide (j = k)) (if S k = true then n else n + 1))) else Nx H3)
theorem scI_core {pins : List (Addr × Obj)} {s : Shared} {σ : L2.St} {H : Hp} {Q : VK} {elt tg iter : Expr} {ifs : List Expr} {scope : Scope} {own : List (PySem.Str × Nat)} {pos pos' : Pos} {wi : TI} {g : TG} {tt : TT} {te : TE} {use : Option (Value → Sem Unit)} {Qf : Value → Shared → Prop}
   (hu : X.A.units + 64 < cLine) (hc : X.calm = true) (hN : X.N.Nodup) (I : Inv X pins σ H s) (hi : PI X tg iter wi) (ok : BlkOk X.N X.env.scope scope own)
   (hg : ∀ (s : Shared) (H : Hp) (C : Addr) (cl : List (PySem.Str × Addr)) (fp : List Addr), PG (X.blk s H scope (compEnvC scope cl C X.env) fp) tg g) (ht : ∀ (s : Shared) (H : Hp) (C : Addr) (cl : List (PySem.Str × Addr)) (fp : List Addr), PTs (X.blk s H scope (compEnvC scope cl C X.env) fp) ifs tt)
   (he : ∀ (s : Shared) (H : Hp) (C : Addr) (cl : List (PySem.Str × Addr)) (fp : List Addr), PE (X.blk s H scope (compEnvC scope cl C X.env) fp) elt te) (hs : ∀ x, foldedSetIterable iter X.env x = pure x)
   (h : tScI X.K X.prog X.w wi g tt te (own.map (·.2)) σ H Q)
   (hRR : ∀ D C s' m H', Inv X pins σ H' s' → Q (.ref D) H' → s'.heap.Ns C m → FpOk X pins H' C → compPost (model X.prog X.w) X.A X.xe use Qf (.ref D) C (.ok .next) s') :
   wpAny (model X.prog X.w) X.A (comprehension (.SetComp elt [⟨tg, iter, ifs, 0⟩] scope pos) scope X.env pos' (newSet (.type "set")) false (eval iter X.env) use) Qf X.xe s := by
 have hfree : ∀ y ∈ scope.names, y.2 = .free → ∃ c, X.env.cells.lookup y.1 = some c := fun y hy e => by
   rcases ok.free y hy e with k | k
   · exact I.ok.has _ (.inl k)
   · exact I.ok.has _ (.inr k)
 refine wpAny_comprehension_free (use := use) rfl hs (closure_ok hfree) ok.kind (fun y hy e => by rw [ok.uniq y hy, e])
   (thn (hi.run pins s σ H _ I h) fun xv s1 hx => thn hx fun itv s2 h2 => ?_)
 obtain ⟨it, fp, tn, J, H2, e, I2, T, st2, f2, q⟩ := h2
 subst e
 refine PpSet.newSet_ok (newEnv_comp ?_)
 generalize hD : s2.heap.objs.size = D
 have hDn : H2 D = none := I2.hok.fresh (Nat.le_of_eq hD)
 obtain ⟨W, ⟨m0, w0⟩, turn⟩ := q D hDn
 -- the new list
 generalize hs3 : ({ s2 with heap := s2.heap.push { cls := .type "set", dict := none, data := .set #[] 0 (.fresh 0 0 (!X.w.params.followText "set-order")) } } : Shared) = s3
 have I3 : Inv X pins σ (upd H2 D (SetO X.w D (fun _ => false) 0)) s3 := by
   rw [← hs3]
   refine I2.laid (t' := s2.toks) (fun b o e => Heap.get?_push_of_some _ e) (Nat.le_of_eq hD) ?_
   rw [← hD]
   exact setO_new (setR_fresh X.w)
 have h3 : s3.heap = s2.heap.push { cls := .type "set", dict := none, data := .set #[] 0 (.fresh 0 0 (!X.w.params.followText "set-order")) } := by rw [← hs3]
 have sz : ∀ b ∈ fp, b < s2.heap.objs.size := fun b hb => by
   obtain ⟨o, e, _⟩ := T.obj _ _ st2 b hb
   exact Heap.lt_size e
 have f3 : ∀ b ∈ fp, FpOk X pins (upd H2 D (SetO X.w D (fun _ => false) 0)) b ∧ b < s3.heap.objs.size := fun b hb => by
   have hlt := sz b hb
   refine ⟨⟨?_, (f2 b hb).2⟩, by rw [h3, Heap.size_push]; exact Nat.lt_succ_of_lt hlt⟩
   rw [upd_ne (by rw [← hD]; exact Nat.ne_of_lt hlt)]
   exact (f2 b hb).1
 have st3 : tn 0 s3.heap := T.keep _ _ _ st2 fun b _ o e => by rw [h3]; exact Heap.get?_push_of_some _ e
 have I4 := block_start I3 ok hN f3
 have pg := hg s3 (upd H2 D (SetO X.w D (fun _ => false) 0)) s3.heap.objs.size (cellsFrom (s3.heap.objs.size + 1) scope.names (cloFrom X.env.cells scope.names [])) fp
 have pt := ht s3 (upd H2 D (SetO X.w D (fun _ => false) 0)) s3.heap.objs.size (cellsFrom (s3.heap.objs.size + 1) scope.names (cloFrom X.env.cells scope.names [])) fp
 have pe := he s3 (upd H2 D (SetO X.w D (fun _ => false) 0)) s3.heap.objs.size (cellsFrom (s3.heap.objs.size + 1) scope.names (cloFrom X.env.cells scope.names [])) fp
 show codeAny _ _ (.compStart (.SetComp elt [⟨tg, iter, ifs, 0⟩] scope pos) 0 (.ref it) (.ref D) (compEnvC scope (cellsFrom (s3.heap.objs.size + 1) scope.names (cloFrom X.env.cells scope.names [])) s3.heap.objs.size X.env)) (compPost (model X.prog X.w) X.A X.xe use Qf (.ref D) s3.heap.objs.size) { s3 with heap := pushCells (s3.heap.push { cls := .type "dict", data := .dict #[] }) scope.names }
 have nfp : ∀ b ∈ fp, (upd H2 D (SetO X.w D (fun _ => false) 0)) b = none := fun b hb => (f3 b hb).1.1
 generalize hce : compEnvC scope (cellsFrom (s3.heap.objs.size + 1) scope.names (cloFrom X.env.cells scope.names [])) s3.heap.objs.size X.env = ce at I4 pg pt pe ⊢
 have cL : ce.locals = s3.heap.objs.size := by subst hce; rfl
 generalize hH3 : upd H2 D (SetO X.w D (fun _ => false) 0) = H3 at I3 I4 pg pt pe w0 nfp f3
 generalize hs4 : ({ s3 with heap := pushCells (s3.heap.push { cls := .type "dict", data := .dict #[] }) scope.names } : Shared) = s4 at I4 ⊢
 have st4 : tn 0 s4.heap := T.keep _ _ _ st3 fun b _ o e => by rw [← hs4]; exact pushCells_keeps _ _ _ _ (Heap.get?_push_of_some _ e)
 have stat : ∀ {σ' : L2.St} {H' : Hp} {s' : Shared}, Inv (X.blk s3 H3 scope ce fp) [] σ' H' s' → (∀ b ∈ fp, H' b = none) → ∀ b ∈ fp, FpOk (X.blk s3 H3 scope ce fp) [] H' b := fun {σ' H' s'} I' hn b hb =>
   ⟨hn b hb, (I'.ok.exf b hb).1, I'.ok.exfs b hb, .inl hb, fun x c e => (I'.ok.exf b hb).2 x c e, fun p hp => absurd (show p ∈ ([] : List (Addr × Obj)) ++ [] from hp) (by simp)⟩
 have loop : codeAny (model X.prog X.w) X.A (.compLoop (.SetComp elt [⟨tg, iter, ifs, 0⟩] scope pos) 0 (.ref it) (.ref D) ce) (compPost (model X.prog X.w) X.A X.xe use Qf (.ref D) s3.heap.objs.size) s4 := by
   refine PpSet.compLoopS_any (fun n s' => ∃ i H', Inv (X.blk s3 H3 scope ce fp) [] (wipe σ (own.map (·.2))) H' s' ∧ tn i s'.heap ∧ (∀ b ∈ fp, H' b = none) ∧ W i n H') ?_ m0 ⟨0, H3, I4, st4, nfp, w0⟩
   rintro n s5 ⟨i, H5, I5, st5, n5, w5⟩
   rcases turn i n H5 w5 with ⟨stop, qq⟩ | ⟨go, Nx, hNx, step⟩
   · have td := T.done (X.blk s3 H3 scope ce fp) rfl rfl rfl hc i [] s5 _ H5 (fun _ _ => False) I5 (stat I5 n5) st5 stop
     refine thnF td fun r s6 ⟨hr, I6⟩ => ?_
     subst hr
     -- back in the def's context
     have I7 : Inv X pins σ H5 s6 := I3.call' (ch := fp) I6.os I6.base I6.hok I6.bare fun b hb => ⟨(f3 b hb).1.2.2.2.1, (f3 b hb).1.2.1, (f3 b hb).1.2.2.2.2.1, (f3 b hb).1.2.2.2.2.2⟩
     have nC : H5 s3.heap.objs.size = none := by
       have z : H5 ce.locals = none := I6.free
       rw [cL] at z
       exact z
     obtain ⟨m, hn, _⟩ := I6.loc
     have hn : s6.heap.Ns ce.locals m := hn
     rw [cL] at hn
     exact hRR D s3.heap.objs.size s6 m H5 I7 qq hn (I3.fpOk (Nat.le_refl _) nC)
   · have ti := T.item (X.blk s3 H3 scope ce fp) rfl rfl rfl hc i [] s5 _ H5 (fun _ _ => False) I5 (stat I5 n5) st5 go
     refine thnF ti fun r s6 ⟨u, hr, h6⟩ => ?_
     subst hr
     refine thnF h6 fun _ s7 ⟨x, H7, I7, r7, y7, st7, n7⟩ => ?_
     have I7' := I7.pinned (stat I7 n7) (T.obj _ _ st7)
     refine thnF (pg.run _ s7 _ H7 x u _ I7' r7 (step x H7 y7)) fun _ s8 ⟨σ8, H8, I8, hw8, q8⟩ => ?_
     refine thnF (pt.run _ s8 σ8 H8 _ I8 q8) fun b s9 ⟨H9, I9, q9⟩ => ?_
     -- the turn's end
     have fin : ∀ {s' : Shared} {H' : Hp}, Inv (X.blk s3 H3 scope ce fp) ([] ++ pinsAt fp s7.heap) σ8 H' s' → Nx H' → ∃ m, m < n ∧ ∃ i H', Inv (X.blk s3 H3 scope ce fp) [] (wipe σ (own.map (·.2))) H' s' ∧ tn i s'.heap ∧ (∀ b ∈ fp, H' b = none) ∧ W i m H' := fun {s' H'} I' nx => by
       obtain ⟨m', hm, w'⟩ := hNx H' nx
       have pin' : ∀ b ∈ fp, ∀ o, s7.heap.get? b = some o → s'.heap.get? b = some o ∧ H' b = none := fun b hb o e =>
         let z := I'.pin (b, o) (List.mem_append_right _ (List.mem_append_right _ (mem_pinsAt hb e)))
         ⟨z.1, z.2.1⟩
       have hl : (wipe σ (own.map (·.2))).length = σ8.length := by rw [← hw8, wipe_length]
       refine ⟨m', hm, i + 1, H', (I'.unpinned (pins := [])).weak hl (fun j v e => ?_), T.keep _ _ _ st7 fun b hb o e => (pin' b hb o e).1, fun b hb => ?_, w'⟩
       · rw [← hw8] at e
         exact (wipe_some e).1
       · obtain ⟨o, e, _⟩ := T.obj _ _ st7 b hb
         exact (pin' b hb o e).2
     cases b with
     | false =>
       simp only [Bool.false_eq_true, if_false] at q9 ⊢
       exact fin I9 q9
     | true =>
       simp only [if_true] at q9 ⊢
       refine thnF (pe.run _ s9 σ8 H9 _ I9 q9) fun z s10 ⟨yv, H10, I10, r10, k, S, n', ey, hD10, hz10, nx⟩ => ?_
       subst ey
       refine thnF (mt_sadd (X := X.blk s3 H3 scope ce fp) _ s10 σ8 H10 (.ref D) [.int k] (.ref D) [z] (fun _ H' => Nx H') I10 rfl (.cons r10 .nil) ⟨D, k, S, n', rfl, rfl, hD10, hz10, nx⟩) fun _ s11 ⟨_, H11, I11, _, q11⟩ => fin I11 q11
 exact PpSet.codeAny_compStart_set loop (T.self X.A 0 _ _ _ st4 loop)
end
end L2
namespace G
open PySem PySem.Spec PyProof.Rows L2
section
variable {K : PySem.W.Frag} {P : Program} {w : World} {H : Hp} {Q : VK}
def AddI (w : World) (D : Addr) (N : Hp → Prop) : VK := fun y H4 => ∃ (k : Int) (S : Int → Bool) (n : Nat), y = .int k ∧ H4 D = some (SetO w D S n) ∧ n + 1 < scanBound ∧ N (upd H4 D (SetO w D (fun j => S j || decide (j = k)) (if S k = true then n else n + 1)))
theorem e_addI {i : Int} {xs ys : List Int} {D : Addr} {N : Hp → Prop} (r : (ySet w).rep K H [D] (.ref D) xs) (hm : Mi.sadd xs i = some ys) (q : ∀ H', Chg [D] H H' → (ySet w).rep K H' [D] (.ref D) ys → N H') : AddI w D N (.int i) H := by
 obtain ⟨a, k, S, n, e1, e2, h1, h2, h3⟩ := m_sadd (Q := fun _ H' => N H') r hm q
 obtain rfl := V.ref.inj e1
 refine ⟨k, S, n, ?_, h1, h2, h3⟩
 simpa using e2
def TurnSI (w : World) (g : TG) (tt : TT) (te : TE) (ws : List Nat) (σ : L2.St) (N : Hp → Prop) (D : Addr) (x : V) (H : Hp) : Prop := g x (wipe σ ws) H fun σ2 H2 => wipe σ2 ws = wipe σ ws ∧ tt σ2 H2 fun b H3 => if b = true then te σ2 H3 (AddI w D N) else N H3
theorem w_scI {wi : TI} {g : TG} {tt : TT} {te : TE} {ws : List Nat} {σ : L2.St} (h : wi σ H fun J H1 => CompA (fun D => SetO w D (fun _ => false) 0) J (TurnSI w g tt te ws σ) H1 Q) : tScI K P w wi g tt te ws σ H Q := h
theorem setI_nil {D : Addr} (hD : H D = none) : Chg [] H (upd H D (SetO w D (fun _ => false) 0)) ∧ (ySet w).rep K (upd H D (SetO w D (fun _ => false) 0)) [D] (.ref D) [] := ⟨Chg.new' hD set_nc, ⟨D, rfl, rfl, upd_same⟩⟩
end
end G
namespace G
open PySem PySem.Spec PyProof.Rows L2
section
variable {X : Cx} {K : PySem.W.Frag} {P : Program} {w : World}
variable {σ : L2.St} {H : Hp} {F Fk : List Addr} {v u : V} {to ti te : TE} {d d' : List ((Int × Int) × Int)} {k : Int × Int} {i j z : Int} {t2 : TS} {D : Ends}
end
section
variable {K : PySem.W.Frag} {H : Hp} {F : List Addr} {v : V} {α : Type} {τ : Ty α} {Q : VK}
end
end G
namespace L2
open PySem PySem.Spec PyProof.Rows
section
variable {P : Program} {w : World} {K : PySem.W.Frag} {tg : Expr} {d : Addr} {o : Obj} {es : Array DictEntry} {ep : Nat} {xs : List (List Key × Addr × Value)} {vs : List V}
end
section
variable {X : Cx} {P : Program} {w : World} {K : PySem.W.Frag} {tg e : Expr} {td : TE} {apos cpos : Pos}
end
end L2
namespace G
open PySem PySem.Spec PyProof.Rows L2
section
variable {P : Program} {w : World} {K : PySem.W.Frag} {σ : L2.St} {H : Hp} {F : List Addr} {te : TE} {tt : TT} {v : V} {α β : Type} {τ : Ty α} {υ : Ty β} {Q : VK} {g : TG} {ws : List Nat} {xs : List Ent} {d : List ((Int × Int) × β)}
end
end G
namespace G
open PySem PySem.Spec PyProof.Rows L2
section
variable {K : PySem.W.Frag} {H : Hp} {F : List Addr} {v : V} {α : Type} {τ : Ty α}
end
end G
namespace L2
open PySem PySem.Spec PyProof.Rows
section
variable {X : Cx}
end
end L2
namespace PySem
namespace ErrI_ship
open PySem.W PySem.Calls PyProof.Rows PySem.HandSPX
open PySem.ErrX (ldX one_size)
section
variable {prog : Program} {w : World} {A : Around} {E : Value → Shared → Prop} {R : Result → Shared → Prop} {s : Shared} {K : Frag} {mg mb : Str → Option Value} {C fI : Addr} {cn qual : Str} {st : Stmt}
end
end ErrI_ship
end PySem
namespace L2
open PySem PySem.Spec PyProof.Rows
section
variable {X : Cx} {C fI : Addr} {cn qual : Str} {st : Stmt}
end
end L2
namespace G
open PySem PySem.Spec PyProof.Rows L2
section
variable {K : PySem.W.Frag} {σ : L2.St} {H : Hp} {Q : VK} {C : Addr} {D : Ends} {t2 : TS} {te : TE} {a dd : Addr} {fs : List (Str × V)}
end
end G
namespace PySem
namespace ErrI_number
open PySem.W PySem.Calls PyProof.Rows PySem.HandSPX
open PySem.ErrX (ldX one_size)
section
variable {prog : Program} {w : World} {A : Around} {E : Value → Shared → Prop} {R : Result → Shared → Prop} {s : Shared} {K : Frag} {mg mb : Str → Option Value} {C fI : Addr} {cn qual : Str} {st : Stmt}
end
end ErrI_number
end PySem
namespace L2
open PySem PySem.Spec PyProof.Rows
section
variable {X : Cx} {C fI : Addr} {cn qual : Str} {st : Stmt}
end
end L2
namespace G
open PySem PySem.Spec PyProof.Rows L2
section
variable {K : PySem.W.Frag} {σ : L2.St} {H : Hp} {Q : VK} {C : Addr} {D : Ends} {t2 : TS} {te : TE} {a dd : Addr} {fs : List (Str × V)}
end
end G
namespace PySem
namespace ErrI_hour
open PySem.W PySem.Calls PyProof.Rows PySem.HandSPX
open PySem.ErrX (ldX one_size)
section
variable {prog : Program} {w : World} {A : Around} {E : Value → Shared → Prop} {R : Result → Shared → Prop} {s : Shared} {K : Frag} {mg mb : Str → Option Value} {C fI : Addr} {cn qual : Str} {st : Stmt}
end
end ErrI_hour
end PySem
namespace L2
open PySem PySem.Spec PyProof.Rows
section
variable {X : Cx} {C fI : Addr} {cn qual : Str} {st : Stmt}
end
end L2
namespace G
open PySem PySem.Spec PyProof.Rows L2
section
variable {K : PySem.W.Frag} {σ : L2.St} {H : Hp} {Q : VK} {C : Addr} {D : Ends} {t2 : TS} {te : TE} {a dd : Addr} {fs : List (Str × V)}
end
end G
namespace Mi
end Mi
namespace L2
open PySem PySem.Spec PyProof.Rows
section
variable {prog : Program} {w : World}
end
section
variable {X : Cx} {P : Program} {w : World}
end
end L2
namespace G
open PySem PySem.Spec PyProof.Rows L2
section
variable {P : Program} {w : World} {K : PySem.W.Frag} {σ σ' : L2.St} {H : Hp} {F : List Addr} {te : TE} {v : V} {α β : Type} {τ : Ty α} {υ : Ty β} {Q : VK} {d : List ((Int × Int) × β)} {t2 : TS} {D : Ends}
end
section
variable {K : PySem.W.Frag} {σ : L2.St} {H : Hp} {F : List Addr} {v : V} {α : Type} {τ : Ty α} {D : Ends} {tb : TS}
end
end G
namespace G
open PySem PySem.Spec PyProof.Rows L2
section
variable {K : PySem.W.Frag} {σ : L2.St} {H : Hp} {F G Fu : List Addr} {v u : V} {p : Addr} {i : Int} {α : Type} {τ : Ty α}
end
end G
namespace G
open PySem PySem.Spec PyProof.Rows L2
section
variable {K : PySem.W.Frag} {σ : L2.St} {H : Hp} {F : List Addr} {v : V} {α β : Type} {τ : Ty α} {υ : Ty β} {Q : VK} {g : TG} {tt : TT} {te tl : TE} {ws : List Nat}
end
end G
namespace G
open PySem PySem.Spec PyProof.Rows L2
section
variable {K : PySem.W.Frag} {H : Hp} {F : List Addr} {v : V} {Q : VK} {α : Type} {τ : Ty α}
end
end G
namespace G
open PySem PySem.Spec PyProof.Rows L2
end G
namespace G
open PySem PySem.Spec PyProof.Rows L2
section
variable {K : PySem.W.Frag} {σ : L2.St} {H : Hp} {Q : VK} {C : Addr} {te : TE} {a dd : Addr} {fs : List (Str × V)}
end
end G
namespace Mi
end Mi
namespace L2
open G (Lst lst_ok)
open PySem PySem.Spec PyProof.Rows
end L2
namespace G
open PySem PySem.Spec PyProof.Rows L2
section
variable {K : PySem.W.Frag} {H : Hp} {Q : VK} {v u : V}
end
end G
namespace G
open PySem PySem.Spec PyProof.Rows L2
section
variable {K : PySem.W.Frag} {σ : L2.St} {H : Hp} {Q : VK} {C : Addr} {D : Ends} {t2 : TS} {te : TE}
end
end G
namespace G
open PySem PySem.Spec PyProof.Rows L2
section
variable {X : Cx} {a e b c : Expr} {te tb : TE} {ta : TT} {tc : TTw} {i : Nat} {x : Str} {p q rest : List Stmt} {t tr : TS} {p1 p2 p3 p4 p5 pos : Pos}
end
section
variable {K : PySem.W.Frag} {σ σ' : L2.St} {H : Hp} {F F1 F2 Fu : List Addr} {ta : TE} {v u : V} {i : Int} {α β : Type} {τ : Ty α} {υ : Ty β} {Q : VK} {D : Ends} {tb : TS}
end
def Wk {α β : Type} (ts : Tys α) (us : Tys β) (f : α → β) : Prop := ∀ {K : PySem.W.Frag} {H : Hp} {F : List Addr} {vs : List V} {d : α}, ts.rep K H F vs d → us.rep K H [] vs (f d)
section
variable {K : PySem.W.Frag} {H : Hp} {F : List Addr} {v : V} {α β : Type} {τ : Ty α} {ts : Tys α} {us : Tys β} {γ : Type} {υ : Ty γ} {f : α → β}
theorem wk_one : Wk (sOne τ) (sOne yAny) (fun _ => ()) := fun r => by
 obtain ⟨v, e, _⟩ := r
 exact ⟨v, e, rfl⟩
theorem wk_cons (h : Wk ts us f) : Wk (sCons υ ts) (sCons yAny us) (fun d => ((), f d.2)) := fun r => by
 obtain ⟨v, ws, F1, F2, e, _, _, q⟩ := r
 exact ⟨v, ws, [], [], e, rfl, rfl, h q⟩
theorem wk_int (h : Wk ts us f) : Wk (sCons yInt ts) (sCons yInt us) (fun d => (d.1, f d.2)) := fun r => by
 obtain ⟨v, ws, F1, F2, e, _, ⟨_, e1⟩, q⟩ := r
 exact ⟨v, ws, [], [], e, rfl, ⟨rfl, e1⟩, h q⟩
theorem tup_wk {d : α} (h : Wk ts us f) (r : (yTup ts).rep K H F v d) : (yTup us).rep K H [] v (f d) := by
 obtain ⟨a, vs, e, s, q⟩ := r
 exact ⟨a, vs, e, s, h q⟩
end
end G
namespace G
open PySem PySem.Spec PyProof.Rows L2
section
variable {K : PySem.W.Frag} {H : Hp} {F : List Addr} {v : V} {α β : Type} {τ : Ty α} {υ : Ty β}
end
section
variable {K : PySem.W.Frag} {H H' : Hp} {F G : List Addr} {u v : V} {α : Type} {τ : Ty α}
end
end G
namespace G
open PySem PySem.Spec PyProof.Rows L2
section
variable {P : Program} {w : World} {K : PySem.W.Frag} {σ : L2.St} {H : Hp} {F Fk : List Addr} {v u : V} {to ti te : TE} {d d' : List ((Int × Int) × Int)} {k : Int × Int} {i j z : Int} {t2 : TS} {D : Ends}
end
section
variable {X : Cx} {o : Expr} {f : Str} {pos : Pos} {ta : TE}
end
section
variable {K : PySem.W.Frag} {σ : L2.St} {H : Hp} {F : List Addr} {v : V} {i : Int} {α β γ : Type} {τ1 : Ty α} {τ2 : Ty β} {τ3 : Ty γ} {Q : VK}
end
section
variable {K : PySem.W.Frag} {H : Hp} {F : List Addr} {v : V} {a : List Nat} {Q : VK}
end
end G
namespace G
open PySem PySem.Spec PyProof.Rows L2
section
variable {M : Model} {A : Around} {E : Value → Shared → Prop} {s : Shared} {pos : Pos} {x : Addr} {Q : Value → Shared → Prop}
end
theorem fn_of {K : PySem.W.Frag} {x qual : Str} {st : Stmt} {f : Addr} {fd : FuncData} (F : Fun K x qual st f fd) : PySem.W.fnIn K f = true := by
 obtain ⟨oc, od, kV, doc, pm, an, cdv, ct, osl, _, e, _⟩ := F.ex
 unfold PySem.W.fnIn
 rw [e]
section
variable {X : Cx} {CX : CXT} {k : Nat} {f C : Addr} {fd : FuncData} {ps : List Str} {sp : Sp} {E : XK} {pos : Pos} {e o : Expr} {es : List Expr} {ta : TE} {t : TA}
end
section
variable {K : PySem.W.Frag} {H : Hp} {F : List Addr} {v : V} {α : Type} {C : Addr} {ns : List Str} {ts : Tys α} {d : α} {σ : L2.St} {ta : TE} {t : TA} {sp : Sp} {E : XK} {Q : VK}
end
end G
namespace PySem
open Sem (wp)
section
variable {prog : Program} {w : World} {A : Around} {E : Value → Shared → Prop} {s : Shared}
def ZOwn (h : Heap) (z TI TO : Addr) (al : Addr → Prop) : Prop := IsZip h z TI TO .none ∨ ∃ T f, IsZipHeld h z TI TO T f ∧ al T
def ZRest (h : Heap) (TI TO i1 i2 l1 l2 : Addr) (k : Nat) : Prop := IsPair h TI (.ref i1) (.ref i2) ∧ (∃ a b, IsPair h TO a b) ∧ h.IsListIter i1 l1 k ∧ h.IsListIter i2 l2 k
end
end PySem
namespace L2
open PySem PySem.Spec PyProof.Rows
def KeepT (H H' : Hp) : Prop := ∀ T l, H T = some (.tup l) → H' T = some (.tup l)
structure EZ (h : Heap) (H : Hp) (e z TI TO i1 i2 a b : Addr) (i : Nat) : Prop where
 en : ∃ old, IsEnum h e z ((i : Nat) : Int) old
 own : ZOwn h z TI TO fun T => ∃ l, H T = some (.tup l)
 rest : ZRest h TI TO i1 i2 a b i
theorem EZ.to {h h' : Heap} {H H' : Hp} {e z TI TO i1 i2 a b : Addr} {i : Nat} (s : EZ h H e z TI TO i1 i2 a b i) (k : ∀ c ∈ [e, z, TI, TO, i1, i2], ∀ o, h.get? c = some o → h'.get? c = some o) (kt : KeepT H H') : EZ h' H' e z TI TO i1 i2 a b i := by
 obtain ⟨⟨old, en⟩, own, hTI, ⟨x, y, hTO⟩, h1, h2⟩ := s
 refine ⟨⟨old, k e (by simp) _ en⟩, ?_, k TI (by simp) _ hTI, ⟨x, y, k TO (by simp) _ hTO⟩, h1.at fun o q => k i1 (by simp) o q, h2.at fun o q => k i2 (by simp) o q⟩
 rcases own with q | ⟨T, f, q, l, hl⟩
 · exact .inl (k z (by simp) _ q)
 · exact .inr ⟨T, f, k z (by simp) _ q, l, kt _ _ hl⟩
theorem EZ.obj {h : Heap} {H : Hp} {e z TI TO i1 i2 a b : Addr} {i : Nat} (s : EZ h H e z TI TO i1 i2 a b i) : ∀ c ∈ [e, z, TI, TO, i1, i2], ∃ o, h.get? c = some o ∧ ∀ v, o.data ≠ .cell v := by
 obtain ⟨⟨old, en⟩, own, hTI, ⟨x, y, hTO⟩, ⟨o1, g1, _, d1⟩, ⟨o2, g2, _, d2⟩⟩ := s
 intro c hc
 have e' : c = e ∨ c = z ∨ c = TI ∨ c = TO ∨ c = i1 ∨ c = i2 := by simpa using hc
 rcases e' with q | q | q | q | q | q
 · rw [q]; exact ⟨_, en, fun v q => nomatch q⟩
 · rw [q]
   rcases own with z | ⟨_, _, z, _⟩
   · exact ⟨_, z, fun v q => nomatch q⟩
   · exact ⟨_, z, fun v q => nomatch q⟩
 · rw [q]; exact ⟨_, hTI, fun v q => nomatch q⟩
 · rw [q]; exact ⟨_, hTO, fun v q => nomatch q⟩
 · rw [q]; exact ⟨o1, g1, fun v q => by rw [d1] at q; cases q⟩
 · rw [q]; exact ⟨o2, g2, fun v q => by rw [d2] at q; cases q⟩
section
variable {X : Cx} {pins : List (Addr × Obj)} {σ : St} {H : Hp} {s : Shared} {E : Value → Shared → Prop} {e z TI TO i1 i2 a b : Addr} {i : Nat} {xs ys : List V} {x y : V}
end
end L2
namespace G
open PySem PySem.Spec PyProof.Rows L2
section
variable {K : PySem.W.Frag} {σ σ' : L2.St} {H : Hp} {ta tb te : TE} {v w u x y : V} {i j : Int} {α β : Type} {τ : Ty α} {υ : Ty β} {D : Ends} {t2 : TS} {g : TG}
end
end G
namespace G
open PySem PySem.Spec PyProof.Rows L2
section
variable {X : Cx} {Z : CXT} {k : Nat} {f C : Addr} {fd : FuncData} {ps : List Str} {sp : Sp} {E : L2.St → XK} {pos : Pos} {e o : Expr} {es : List Expr} {ta : TE} {t : TA}
end
section
variable {C : Addr} {σ : L2.St} {H : Hp} {ta : TE} {t : TA} {sp : Sp} {E : L2.St → XK} {Q : VK}
end
end G
namespace G
open PySem PySem.Spec PyProof.Rows L2
end G
namespace L2
open PySem PySem.Spec PyProof.Rows
section
variable {X : Cx} {CX : CXT} {k n : Nat} {f : Addr} {fd : FuncData} {ps ks : List Str} {sp : Sp} {E : St → XK} {x : Str} {p pos : Pos} {e : Expr} {es : List Expr} {kws : List Keyword} {t tk : TA} {g : List Value → List Value → List Value} {gV : List V → List V → List V}
theorem op_ltTK {X : Cx} {K : PySem.W.Frag} (hu : X.A.units < cLine) (e : X.K = K := by rfl) : OpR X (compareOp .Lt) (rLtT K) := by subst e; exact op_ltT hu
end
end L2
namespace G
open PySem PySem.Spec PyProof.Rows L2
section
variable {K : PySem.W.Frag} {σ σ' : L2.St} {H : Hp} {F F1 F2 G1 G2 : List Addr} {v u : V} {α β : Type} {Q : VK} {D : Ends} {nx : L2.St → Hp → Prop}
theorem units0 {k : Nat} {A : Around} (r : Room k A) : A.units < cLine := by have := r.un; omega
theorem lexLt_pair (a b : Int × Int) : HT.lexLt [a.1, a.2] [b.1, b.2] = Mi.ltPairB a b := by
 unfold Mi.ltPairB
 show (if a.1 = b.1 then (if a.2 = b.2 then HT.lexLt [] [] else decide (a.2 < b.2)) else decide (a.1 < b.1)) = _
 by_cases h : a.1 = b.1
 · rw [if_pos h, if_pos h]
   by_cases h2 : a.2 = b.2
   · rw [if_pos h2, h2]; exact (decide_eq_false (by omega)).symm
   · rw [if_neg h2]
 · rw [if_neg h, if_neg h]
theorem pair_sqT {a : Int × Int} (r : (yTup (sCons yInt (sOne yInt))).rep K H F v a) : ∃ p, v = .ref p ∧ SqT K H p ([a.1, a.2].map V.int) := by
 obtain ⟨p, vs, rfl, s, v1, ws, F1, F2, rfl, rfl, ⟨_, rfl⟩, v2, rfl, _, rfl⟩ := r
 exact ⟨p, rfl, s⟩
theorem w_ltP {a b : Int × Int} (r : (yTup (sCons yInt (sOne yInt))).rep K H F1 v a) (q : (yTup (sCons yInt (sOne yInt))).rep K H F2 u b) (k : Q (.bl (Mi.ltPairB a b)) H) : rLtT K v u H Q := by
 obtain ⟨p, rfl, s⟩ := pair_sqT r
 obtain ⟨p2, rfl, s2⟩ := pair_sqT q
 exact ⟨p, p2, _, _, rfl, rfl, s, s2, by rw [lexLt_pair]; exact k⟩
end
end G
namespace PySem
namespace ErrS_agent
open PySem.W PySem.Calls PyProof.Rows PySem.HandSPX
open PySem.ErrX (ldX one_size)
section
variable {prog : Program} {w : World} {A : Around} {E : Value → Shared → Prop} {R : Result → Shared → Prop} {s : Shared} {K : Frag} {mg mb : Str → Option Value} {C fI : Addr} {cn qual : Str} {st : Stmt}
end
end ErrS_agent
end PySem
namespace L2
open PySem PySem.Spec PyProof.Rows
section
variable {X : Cx} {C fI : Addr} {cn qual : Str} {st : Stmt}
end
end L2
namespace G
open PySem PySem.Spec PyProof.Rows L2
section
variable {K : PySem.W.Frag} {σ : L2.St} {H : Hp} {Q : VK} {C : Addr} {D : Ends} {t2 : TS} {te : TE} {a dd : Addr} {fs : List (Str × V)}
end
end G
namespace SrtO
open PySem PySem.Spec PyProof.Rows
def IsTrip (h : Heap) (v : Value) (d : Int × Int × Int) : Prop := ∃ a o t u r n, v = .ref a ∧ h.get? a = some o ∧ o.cls = .type "tuple" ∧ o.data = .seq #[.int d.1 t, .int d.2.1 u, .int d.2.2 r] n
theorem IsTrip.keeps {h h' : Heap} {v : Value} {d : Int × Int × Int} (p : IsTrip h v d) (k : ∀ b o, h.get? b = some o → o.cls = .type "tuple" → h'.get? b = some o) : IsTrip h' v d := by
 obtain ⟨a, o, t, u, r, n, e, ho, hc, hd⟩ := p
 exact ⟨a, o, t, u, r, n, e, k _ _ ho hc, hc, hd⟩
section
variable {prog : Program} {w : World} {A : Around} {s : Shared} {E : Value → Shared → Prop}
end
end SrtO
namespace L2
open PySem PySem.Spec PyProof.Rows
section
variable {X : Cx}
end
section
variable {X : Cx} {pins : List (Addr × Obj)} {σ : St} {H : Hp} {s : Shared}
end
end L2
namespace G
open PySem PySem.Spec PyProof.Rows L2
section
variable {X : Cx} {P : Program} {w : World} {K : PySem.W.Frag} {σ σ' : L2.St} {H : Hp} {F F1 F2 Fu : List Addr} {ta tb te to : TE} {v u x y : V} {i j : Int} {Q : VK}
end
end G
namespace G
open PySem PySem.Spec PyProof.Rows L2
section
variable {K : PySem.W.Frag} {H : Hp} {F : List Addr} {v : V} {γ : Type} {ω : Ty γ} {Q : VK}
end
end G
namespace L2
open PySem PySem.Spec PyProof.Rows
section
variable {X : Cx}
theorem swS_true {elt : Expr} {gens : List Comprehension} {sc : Scope} {pos py : Pos} {y : Str} {l : Nat} {env : Env} (hf : env.scope.kind = .function) (hl : env.scope.names.lookup y = some .local) (hline : (py.line == pos.line) = true)
   (hn : (sc.names.any fun (n, k) => n == y && (k == .local || k == .cell)) = false) : swapsWith (.SetComp elt gens sc pos) (some (.Name y py)) l env = pure true := by
 have e1 : env.kindOf y = some .local := hl
 have e2 : env.blockKind = .function := by unfold Env.blockKind; rw [hf]; rfl
 unfold swapsWith
 simp only [e2, e1, hn, Expr.pos, hline]
 rfl
end
end L2
namespace G
open PySem PySem.Spec PyProof.Rows L2
section
variable {K : PySem.W.Frag} {H : Hp} {F1 : List Addr} {v : V} {β : Type} {τ : Ty β}
end
end G
namespace G
open PySem PySem.Spec PyProof.Rows L2
section
variable {K : PySem.W.Frag} {H : Hp} {F : List Addr} {v : V} {α β : Type} {τ : Ty β} {i : Int}
end
end G
namespace G
open PySem PySem.Spec PyProof.Rows L2
section
variable {K : PySem.W.Frag} {H : Hp} {F : List Addr} {v : V} {α : Type} {τ ρ : Ty α} {x : α}
end
end G
namespace G
open PySem PySem.Spec PyProof.Rows L2
section
variable {X : Cx} {P : Program} {w : World} {K : PySem.W.Frag}
variable {σ : L2.St} {H : Hp} {F Fk : List Addr} {v u : V} {td ty tx : TE} {d : List ((Int × Int) × Int)} {k : Int × Int} {i : Int}
end
end G
namespace G
open PySem PySem.Spec PyProof.Rows L2
section
variable {X : Cx} {a e b c : Expr} {te tb : TE} {ta : TT} {tc : TTw} {i : Nat} {x : Str} {p q rest : List Stmt} {t u tr : TS} {p1 p2 p3 p4 p5 pos : Pos}
end
end G
namespace G
open PySem PySem.Spec PyProof.Rows L2
section
variable {P : Program} {w : World} {K : PySem.W.Frag} {H : Hp} {F1 : List Addr} {v : V} {β : Type} {υ : Ty β}
end
section
variable {X : Cx} {P : Program} {w : World} {ke ve : Expr} {tk tv : TE} {pos : Pos}
end
section
variable {P : Program} {w : World} {K : PySem.W.Frag} {σ : L2.St} {H : Hp} {Fk : List Addr} {u z : V} {β : Type} {υ : Ty β} {tk tv : TE} {Q : VK} {D : Addr} {k : Int × Int} {x : β}
end
end G
namespace G
open PySem PySem.Spec PyProof.Rows L2
section
variable {K : PySem.W.Frag} {σ : L2.St} {H : Hp} {F : List Addr} {v : V} {α : Type} {τ : Ty α} {D : Ends} {tb u : TS}
end
end G
namespace G
open PySem PySem.Spec PyProof.Rows L2
section
variable {X : Cx}
end
end G
namespace G
open PySem PySem.Spec PyProof.Rows L2
section
variable {K : PySem.W.Frag} {H : Hp} {F F2 : List Addr} {u v : V} {Q : VK} {α : Type} {τ υ : Ty α} {n : Nat}
end
end G
namespace G
open PySem PySem.Spec PyProof.Rows L2
section
variable {K : PySem.W.Frag} {σ : L2.St} {H : Hp} {v : V} {α β γ δ ε : Type}
end
end G
namespace G
open PySem PySem.Spec PyProof.Rows L2
section
variable {K : PySem.W.Frag} {σ : L2.St} {H H' : Hp} {F F1 F2 : List Addr} {u v : V} {Q : VK}
end
section
variable {K : PySem.W.Frag} {σ : L2.St} {H H' : Hp} {F F1 F2 : List Addr} {u v u1 u2 : V} {Q : VK}
end
end G
namespace G
open PySem PySem.Spec PyProof.Rows L2
section
variable {X : Cx} {a b : Expr} {ta tb : TE} {pos : Pos}
theorem pln (K : PySem.W.Frag) {nm : Pos} (hm : X.mg ("len" : Str) = none) (ha : PE X a ta) (hg : Gl X ("len" : Str) := by rfl) (hs : starEach [a] X.env = (false, eval a X.env) :: starEach [] X.env := by rfl) (e : X.K = K := by rfl) :
 PE X (.Call (.Name ("len" : Str) nm) [a] [] pos) (tCB (rLenQ K) (tCons ta tNil)) := pe_callB (cl_len (K := K) e) hg hm PySem.boot_len (pa_cons ha pa_nil hs) (by decide) (by decide) hs (by rfl)
end
section
variable {K : PySem.W.Frag} {mg : Str → Option Value} {C : Addr} {x f : Str} {ns : List Str} {α β : Type} {ts : Tys α} {υ : Ty β} {pr : α → β} {d : α} {H : Hp} {F : List Addr} {v : V}
end
end G
namespace G
open PySem PySem.Spec PyProof.Rows L2
section
variable {X : Cx} {K : PySem.W.Frag}
end
section
variable {K : PySem.W.Frag} {σ : L2.St} {H : Hp} {F Fu : List Addr} {v u : V} {to ti te : TE} {xs ys : List Int} {i j a : Int} {t2 : TS} {D : Ends} {α : Type} {τ : Ty α} {Q : VK}
end
end G
namespace L2
open PySem PySem.Spec PyProof.Rows
section
variable {P : Program} {w : World} {A : Around} {E : Value → Shared → Prop} {s : Shared}
theorem SetB.keep {h h' : Heap} {a : Addr} {L : List (Addr × List Int)} {es : Array (Int × Value)} {ep : Nat} {t : SetTable} (R : SetB P w h a L es ep t) (ha : ∀ o, h.get? a = some o → h'.get? a = some o) (ht : ∀ p ∈ L, IsT P w h' p.2 p.1) : SetB P w h' a L es ep t := by
 obtain ⟨o, ho, r⟩ := R.obj
 exact ⟨⟨o, ha o ho, r⟩, R.rws, R.tb, R.ndp, ht, R.pln, R.ld, R.rm⟩
def Has (P : Program) (w : World) (S : Addr) (ks : List (Addr × List Int)) (i : Nat) (h : Heap) : Prop := ∃ L es ep t, SetB P w h S L es ep t ∧ Got ks i L
theorem Has.keep {S : Addr} {ks : List (Addr × List Int)} {i : Nat} {h h' : Heap} (x : Has P w S ks i h) (ha : ∀ o, h.get? S = some o → h'.get? S = some o) (ht : ∀ p ∈ ks, IsT P w h' p.2 p.1) : Has P w S ks i h' := by
 obtain ⟨L, es, ep, t, R, g⟩ := x
 exact ⟨L, es, ep, t, R.keep ha fun p hp => ht p (List.mem_of_mem_take (g.sub p hp)), g⟩
end
section
variable {X : Cx}
end
end L2
namespace G
open PySem PySem.Spec PyProof.Rows L2
section
variable {X : Cx} {K : PySem.W.Frag} {P : Program} {w : World} {H : Hp} {F : List Addr} {v : V} {Q : VK}
end
end G
namespace G
open PySem PySem.Spec PyProof.Rows L2
section
variable {K : PySem.W.Frag} {H H' : Hp} {F Fi G : List Addr} {v u : V} {α : Type} {τ : Ty α} {i : Int} {Q : VK}
end
end G
namespace G
open PySem PySem.Spec PyProof.Rows L2
section
variable {K : PySem.W.Frag} {σ : L2.St} {H : Hp} {F : List Addr} {v : V} {α : Type} {τ : Ty α} {D : Ends}
end
end G
namespace G
open PySem PySem.Spec PyProof.Rows L2
section
variable {K : PySem.W.Frag} {σ : L2.St} {H : Hp} {F : List Addr} {v : V} {Q : VK} {te td : TE} {xs : List (Int × Int)} {D : Ends}
end
end G
namespace G
open PySem PySem.Spec PyProof.Rows L2
section
variable {K : PySem.W.Frag} {H : Hp} {F : List Addr} {v : V}
end
end G
namespace L2
open PySem PySem.Spec PyProof.Rows
section
variable {X : Cx}
end
end L2
namespace G
open PySem PySem.Spec PyProof.Rows L2
section
variable {K : PySem.W.Frag} {σ : L2.St} {H : Hp} {F : List Addr} {v : V} {t1 t2 : TS} {xs : List (Int × Int)} {D : Ends}
end
end G
namespace G
open PySem PySem.Spec PyProof.Rows L2
section
variable {X : Cx} {P : Program} {w : World} {K : PySem.W.Frag} {σ σ' : L2.St} {H : Hp} {F F1 F2 Fu : List Addr} {ta tb te to : TE} {tA : TT} {v u x y : V} {i j : Int} {Q : VK} {α β : Type} {τ : Ty α} {υ : Ty β} {n : Nat} {g : TG} {tt : TT} {ws : List Nat}
end
end G
namespace G
open PySem PySem.Spec PyProof.Rows L2
def TabF (P : Addr) (q : Str) (H : Hp) : Prop := ∃ ps : Array Value, H P = some (.tbl ps) ∧ TriplesOk ps.toList ∧ ∀ (pos : Pos) (cv : Value), codeAmong pos ps.toList = some cv → ∃ (c : Addr) (oc : Obj) (u : HO) (vs : Array Value) (t : Tok), cv = .ref c ∧ H c = some (.frz oc u) ∧ oc.data = .fields vs ∧ vs[1]? = some (.str q t)
theorem TabF.keeps {P : Addr} {q : Str} {H H' : Hp} (t : TabF P q H) (k : ∀ b o, H b = some o → (b ∈ [P] ∨ Froz o) → H' b = some o) : TabF P q H' := by
 obtain ⟨ps, h1, h2, h3⟩ := t
 refine ⟨ps, k _ _ h1 (.inl (List.mem_singleton.mpr rfl)), h2, fun pos cv hc => ?_⟩
 obtain ⟨c', oc, u, vs, t, e1, e2, r⟩ := h3 pos cv hc
 exact ⟨c', oc, u, vs, t, e1, k _ _ e2 (.inr trivial), r⟩
theorem TabF.chg {P : Addr} {q : Str} {M : List Addr} {H H' : Hp} (t : TabF P q H) (c : Chg M H H') (hP : P ∉ M) : TabF P q H' := t.keeps fun b o h z => c.keep b o h (z.imp (fun m => by rw [List.mem_singleton.mp m]; exact hP) id)
def yTab (P : Addr) (q : Str) : Ty Unit := ⟨fun _ H F v _ => F = [P] ∧ v = .ref P ∧ TabF P q H, fun h k => ⟨h.1, h.2.1, h.2.2.keeps fun b o e z => k b o e (by rw [h.1]; exact z)⟩, fun h b m => by
 rw [h.1, List.mem_singleton] at m; subst m
 obtain ⟨ps, e, _⟩ := h.2.2
 exact ⟨_, e, fun z => z⟩⟩
theorem TabF.nil {P : Addr} {q : Str} {H : Hp} (h : H P = some (.tbl #[])) : TabF P q H := ⟨#[], h, True.intro, fun pos cv hc => by
 have z : codeAmong pos [] = some cv := hc
 simp [codeAmong] at z⟩
section
variable {prog : Program} {w : World} {A : Around} {s : Shared} {E : Value → Shared → Prop}
theorem key_body {env : Env} {ys p : Str} {p1 p2 p3 p4 p5 : Pos} {kd : Nat} {c sp tp : Addr} {its its2 : List Value} {j k : Int} {tj tk : Tok} {m : Str → Option Value} (hk : env.scope.kind = .function) (h1 : env.kindOf ys = some .free) (hc : env.cells.lookup ys = some c)
   (hcell : s.heap.IsCell c (some (.ref sp))) (h2 : env.kindOf p = some .local) (hn : s.heap.Ns env.locals m) (hm : m p = some (.int j tj)) (hl : s.heap.IsList sp its.toArray) (hlen : its.length ≤ sizeLine) (hj0 : 0 ≤ j) (hj : its[j.toNat]? = some (.ref tp))
   (ht : IsTup s.heap tp its2.toArray) (hl2 : its2.length ≤ sizeLine) (h0 : its2[0]? = some (.int k tk)) (hd1 : (ys == ("__debug__" : Str)) = false) (hd2 : (p == ("__debug__" : Str)) = false) (hcd : (ys == ("__classdict__" : Str)) = false) {Q : Value → Shared → Prop} (h : ∀ t, Q (.int k tk) { s with toks := t }) :
   wpAny (model prog w) A (eval (.Subscript (.Subscript (.Name ys p1) (.Name p p2) p3) (.Constant (.int 0) kd p4) p5) env) Q E s := by
 have hjl : j.toNat < its.length := (List.getElem?_eq_some_iff.mp hj).1
 have hn63 := line63
 refine Subscript_ (Subscript_ (wpAny_Name (wpAny_loadName_free hk h1 hc hcell ?_ hcd) hd1))
 refine wpAny_Name (wpAny_loadName_local hk h2 hn hm ?_) hd2
 refine item_listR hl hj0 (by omega) (by simpa using hj) ?_
 refine wpAny_Constant_int ?_
 have h0l : 0 < its2.length := (List.getElem?_eq_some_iff.mp h0).1
 exact subscriptTail_builtinR (x := .int k tk) (PyProof.Rows.IsTup.typeIs (s := { s with toks := s.toks + 1 }) ht) slot_tuple_getitem.lookup
   (getItem_tuple (j := 0) (Q := fun r s' => r = .int k tk ∧ Q r s') ht (by omega) (by omega) (by
     rw [List.size_toArray]
     exact seqIndex_of (by decide) (by omega)) (by simpa using h0) ⟨rfl, h _⟩)
structure KeyFn (h : Heap) (f c sp : Addr) (ys p : Str) (cdv : Value) (cl : List (Str × Addr)) (qual : Str) (scope : Scope) (fd : FuncData) : Prop where
 cell : cl.lookup ys = some c
 val : h.IsCell c (some (.ref sp))
 obj : ∃ ob : Obj, h.get? f = some ob ∧ ob.data = .func fd
 name : fd.qualname = qual
 sco : fd.scope = scope
 glo : fd.globals = mainGlobals
 clo : fd.closure = cl
 blt : fd.builtins = builtinsNs
 bind : ∀ v : Value, bindArgs fd ⟨[v], []⟩ = pure [(p, v)]
 code : h.CodeRec cdv qual
 cdv_ : fd.code = cdv
theorem key_call {ys p : Str} {p1 p2 p3 p4 p5 : Pos} {kd : Nat} {f c sp tp : Addr} {cdv : Value} {cl : List (Str × Addr)} {qual : Str} {scope : Scope} {fd : FuncData} {its its2 : List Value} {j k : Int} {tj tk : Tok} (kf : KeyFn s.heap f c sp ys p cdv cl qual scope fd) (hb : fd.body = .expr (.Subscript (.Subscript (.Name ys p1) (.Name p p2) p3) (.Constant (.int 0) kd p4) p5))
   (hroom : A.depth < recursionLimit) (nl : s.heap.NoLimit) (hk : scope.kind = .function) (hco : scope.isCoroutine = false) (hgen : scope.isGenerator = false) (h1 : scope.names.lookup ys = some .free) (h2 : scope.names.lookup p = some .local) (hcell : ∀ x ∈ scope.names, x.2 ≠ .cell)
   (hl : s.heap.IsList sp its.toArray) (hlen : its.length ≤ sizeLine) (hj0 : 0 ≤ j) (hj : its[j.toNat]? = some (.ref tp)) (ht : IsTup s.heap tp its2.toArray) (hl2 : its2.length ≤ sizeLine) (h0 : its2[0]? = some (.int k tk))
   (hd1 : (ys == ("__debug__" : Str)) = false) (hd2 : (p == ("__debug__" : Str)) = false) (hcd : (ys == ("__classdict__" : Str)) = false) :
   wpAny (model prog w) A (call (.ref f) [.int j tj]) (PySem.W.KeyPure (.int k) s) (fun _ _ => False) s := by
 obtain ⟨ob, ho, hd⟩ := kf.obj
 refine wpAny_call (PySem.W.kla_callFunE hroom ho hd (by rw [kf.sco]; exact hco) (by rw [kf.sco]; exact hgen) hb (by rw [kf.cdv_, kf.name]; exact kf.code) ?_)
 rw [kf.bind, kf.sco, kf.glo, kf.clo, kf.blt, kf.cdv_, kf.name]
 refine wpAny_pure (wpAny_newFunctionEnv hcell (fun y hy => by rw [List.mem_singleton.mp hy]; exact h2) (fun h₁ hns hsb => ⟨nl.fresh _ hsb, ?_⟩) hk)
 have kp : ∀ b o, s.heap.get? b = some o → h₁.get? b = some o := fun b o e => hsb.extBut b o (Nat.ne_of_lt (Heap.lt_size e)) (Heap.get?_push_of_some _ e)
 refine PySem.W.kla_codeExpr ?_
 obtain ⟨ol, hol, hcl, hdl⟩ := hl
 show wpAny _ _ (eval _ (PySem.W.envX qual scope s.heap.objs.size f cdv cl)) _ _ _
 refine key_body (env := PySem.W.envX qual scope s.heap.objs.size f cdv cl) (m := fun x => ([(p, Value.int j tj)] : List (Str × Value)).reverse.lookup x) (c := c) (sp := sp) (its := its) (its2 := its2) (j := j) (k := k) (tj := tj) (tk := tk) hk (show scope.names.lookup ys = some .free from h1) kf.cell (kf.val.keeps kp) (show scope.names.lookup p = some .local from h2) hns (by simp) ⟨ol, kp _ _ hol, hcl, hdl⟩ hlen hj0 hj (ht.keeps kp) hl2 h0 hd1 hd2 hcd fun t => ?_
 exact ⟨h₁, t, rfl, kp, .int k tk⟩
theorem le_keys (ks : List Int) : (PySem.W.dataLe false fun x : Int => PyData.int (ks[x.toNat]?.getD 0)) = fun a b => decide (ks[a.toNat]?.getD 0 ≤ ks[b.toNat]?.getD 0) := by
 funext a b
 show (!(decide (ks[b.toNat]?.getD 0 < ks[a.toNat]?.getD 0) || ((!decide (ks[a.toNat]?.getD 0 < ks[b.toNat]?.getD 0)) && false))) = _
 rw [Bool.and_false, Bool.or_false]
 by_cases k : ks[a.toNat]?.getD 0 ≤ ks[b.toNat]?.getD 0
 · rw [decide_eq_true k, decide_eq_false (by omega)]; rfl
 · rw [decide_eq_false k, decide_eq_true (by omega)]; rfl
theorem ints_rng : ∀ {acc : List Value} {lo hi : Int}, acc.length = (hi - lo).toNat → (∀ (j : Nat) v, acc[j]? = some v → ∃ t, v = .int (lo + (j : Int)) t) → PySem.W.EachIs (fun v x => ∃ t, v = Value.int x t) acc (Mi.rng lo hi)
 | [], lo, hi, h, _ => by
   unfold Mi.rng
   rw [← h]; exact .nil
 | v :: acc, lo, hi, h, q => by
   have e : Mi.rng lo hi = lo :: Mi.rng (lo + 1) hi := by
     unfold Mi.rng
     rw [show (hi - lo).toNat = (hi - (lo + 1)).toNat + 1 by rw [List.length_cons] at h; omega, List.range_succ_eq_map, List.map_cons, List.map_map]
     refine (congrArg (· :: _) (by simp)).trans (congrArg (lo :: ·) (List.map_congr_left fun k _ => ?_))
     show lo + ((k + 1 : Nat) : Int) = lo + 1 + (k : Int)
     omega
   rw [e]
   refine .cons ?_ (ints_rng (by rw [List.length_cons] at h; omega) fun j w hw => ?_)
   · obtain ⟨t, rfl⟩ := q 0 v rfl
     exact ⟨t, by simp⟩
   · obtain ⟨t, rfl⟩ := q (j + 1) w hw
     exact ⟨t, by rw [show lo + ((j + 1 : Nat) : Int) = lo + 1 + (j : Int) by omega]⟩
theorem each_vals : ∀ {vs : List Value} {xs : List Int}, PySem.W.EachIs (fun v x => ∃ t, v = Value.int x t) vs xs → Vals (xs.map V.int) vs
 | _, _, .nil => .nil
 | _, _, .cons ⟨t, e⟩ h => .cons ⟨t, e⟩ (each_vals h)
theorem sorted_rangeK {r f : Addr} {t u v : Tok} {ks : List Int} {Q : Value → Shared → Prop} (hh : A.handled = none) (hr : IsRange s.heap r 0 (ks.length : Int) 1 t u v) (hn : ks.length ≤ 1000) (hu : A.units + 64 < cLine)
   (turn : ∀ (j : Int) (tj : Tok), 0 ≤ j → j < (ks.length : Int) → ∀ (h : Heap) (tk : Nat), (∀ b o, s.heap.get? b = some o → h.get? b = some o) → wpAny (model prog w) A.in1.in1 (call (.ref f) [.int j tj]) (PySem.W.KeyPure (.int (ks[j.toNat]?.getD 0)) { s with heap := h, toks := tk }) (fun _ _ => False) { s with heap := h, toks := tk })
   (h : ∀ (out : List Value) (c : Nat) (h0 h' : Heap) (tk : Nat) (a : Addr), (∀ b o, s.heap.get? b = some o → h0.get? b = some o) → (∀ b o, h0.get? b = some o → h'.get? b = some o) → h0.objs.size ≤ a → h'.get? a = some (seqObj "list" out.toArray c) → Vals ((Mi.sortIx ks).map V.int) out → Q (.ref a) { s with heap := h', toks := tk }) :
   wpAny (model prog w) A (call (.builtin "sorted") [.ref r] [(Str.ofString "key", .ref f)]) Q E s := by
 have hline := line63
 have hsz : (1000 : Nat) ≤ sizeLine := by decide
 refine call_function_entry_kw kind_sorted plain_sorted entry_sorted (ksk_s1 _ _) ?_
 unfold Builtin.«sorted»
 refine wpAny_bind (m := checkCount "sorted" 1 1 _) (wpAny_pure ?_)
 refine wpAny_bind (collect_range (A := A.in1) (n := ks.length) hh hr (small_one (by decide) (by decide) (by omega) (by omega)) ((rangeSize_nat 0 (ks.length : Int)).trans (by omega)) (by omega) fun h0 tk0 acc kp0 hacc => ?_)
 have hal : acc.toList.length = ks.length := by rw [Array.length_toList]; exact hacc.1
 refine wpAny_bind (wpAny_newList ?_ (by omega))
 have e := ints_rng (acc := acc.toList) (lo := 0) (hi := (ks.length : Int)) (by omega) fun j v hv => by
   obtain ⟨t, e⟩ := hacc.2 j v (by simpa using hv)
   exact ⟨t, by rw [e]; congr 1; omega⟩
 have rl : (Mi.rng 0 (ks.length : Int)).length = ks.length := by unfold Mi.rng; rw [List.length_map, List.length_range]; omega
 have hat : (h0.push (seqObj "list" acc.toList.toArray 0)).get? h0.objs.size = some (seqObj "list" acc.toList.toArray 0) := Heap.get?_push_size _ rfl
 show wpAny _ _ _ _ _ { s with heap := h0.push (seqObj "list" acc.toList.toArray 0), toks := tk0 }
 refine wpAny_bind (wpAny_holding (wpAny_call_entry_kw slot_list_sort ⟨_, hat, rfl⟩ entry_list_sort ?body (ksk_l1 _ _)))
 case body =>
   show wpAny (model prog w) A.in1.in1 (Builtin.«list.sort» ⟨[.ref h0.objs.size], [(Str.ofString "key", .ref f)]⟩) _ _ _
   rw [ksk_t1]
   have up : ∀ {g : Heap}, PySem.W.KeepsBut h0.objs.size (h0.push (seqObj "list" acc.toList.toArray 0)) g → ∀ b o, s.heap.get? b = some o → g.get? b = some o := fun {g} kp b o q =>
     kp b o (Nat.ne_of_lt (Heap.lt_size (kp0 b o q))) (Heap.get?_push_of_some _ (kp0 b o q))
   refine PySem.W.keyH_tree (kz := (Mi.rng 0 (ks.length : Int)).map fun x : Int => PyData.int (ks[x.toNat]?.getD 0)) (s := { s with heap := h0.push (seqObj "list" acc.toList.toArray 0), toks := tk0 }) hat (by rw [List.length_map]; exact e.length.symm) (by omega) (fun d hd d' hd' => ?_) (.inr fun d hd => ?_) (fun d hd => ?_)
     (PySem.W.keyH_turns (s := { s with heap := h0.push (seqObj "list" acc.toList.toArray 0), toks := tk0 }) e fun v x hR hx h tk kp => ?_) fun h' tk out c kp hD ko => ⟨_, rfl, wpAny_pure ⟨_, rfl, ?_⟩⟩
   · obtain ⟨x, _, rfl⟩ := List.mem_map.mp hd
     obtain ⟨x', _, rfl⟩ := List.mem_map.mp hd'
     rfl
   · obtain ⟨x, _, rfl⟩ := List.mem_map.mp hd
     exact ⟨fun z => (by cases z), fun xs z => (by cases z)⟩
   · obtain ⟨x, _, rfl⟩ := List.mem_map.mp hd
     have : (PyData.int (ks[x.toNat]?.getD 0)).depth = 0 := by first | rfl | simp only [PyData.depth]
     show A.units + 1 + 1 + _ < cLine
     omega
   · obtain ⟨t, rfl⟩ := hR
     have hx : 0 ≤ x ∧ x < (ks.length : Int) := by
       unfold Mi.rng at hx
       obtain ⟨k, hk, rfl⟩ := List.mem_map.mp hx
       have := List.mem_range.mp hk
       omega
     exact turn x t hx.1 hx.2 h tk (up kp)
   · refine h out c h0 h' tk _ kp0 (fun b o q => kp b o (Nat.ne_of_lt (Heap.lt_size q)) (Heap.get?_push_of_some _ q)) (Nat.le_refl _) hD ?_
     have ev := PySem.W.keyedOut_each _ ko e
     rw [le_keys] at ev
     exact each_vals ev
end
end G
namespace G
open PySem PySem.Spec PyProof.Rows L2
def cdU (c : Addr) : HO := .ext fun h => ∃ o, h.get? c = some o
theorem tab_chg {H : Hp} {P c : Addr} {ps qs : Array Value} {oc : Obj} (hP : H P = some (.tbl ps)) (nC : H c = none) (hd : ∀ v, oc.data ≠ .cell v) : Chg [P] H (upd (upd H P (.tbl qs)) c (.frz oc (cdU c))) := by
 have nPc : P ≠ c := ne_of_none hP nC
 refine ⟨fun b o h d => ?_, fun b h => ?_, fun a C dx fs h => ⟨fs, ?_⟩, fun b o h => ?_⟩
 · have e : b ≠ P := by
     intro e; subst e
     rcases d with d | d
     · exact d (List.mem_singleton.mpr rfl)
     · rw [hP] at h; cases h; exact d
   rw [upd_ne (ne_of_none h nC), upd_ne e]; exact h
 · by_cases e : b = c
   · subst e; exact nC
   · rw [upd_ne e] at h
     by_cases e2 : b = P
     · subst e2; rw [upd_same] at h; cases h
     · rw [upd_ne e2] at h; exact h
 · have e : a ≠ P := by
     intro e; subst e; rw [hP] at h; cases h
   rw [upd_ne (ne_of_none h nC), upd_ne e]; exact h
 · by_cases e : b = c
   · subst e; rw [upd_same] at h; cases h
     exact .inr (.inr ⟨⟨_, rfl⟩, hd⟩)
   · rw [upd_ne e] at h
     by_cases e2 : b = P
     · subst e2; rw [upd_same] at h; cases h; exact .inr trivial
     · rw [upd_ne e2] at h; exact .inl h
section
variable {X : Cx} {pins : List (Addr × Obj)} {σ : L2.St} {H : Hp} {s : Shared}
theorem inv_tab {P c : Addr} {ps more : Array Value} {h' : Heap} {t' : Nat} {oc : Obj} (I : Inv X pins σ H s) (hP : H P = some (.tbl ps)) (k : ∀ b o, b ≠ P → s.heap.get? b = some o → h'.get? b = some o)
   (hm : h'.get? P = some { cls := .none, data := .fields (ps ++ more) }) (hc : s.heap.objs.size ≤ c) (ho : h'.get? c = some oc) :
   Inv X pins σ (upd (upd H P (.tbl (ps ++ more))) c (.frz oc (cdU c))) { s with heap := h', toks := t' } := by
 have nC : H c = none := I.hok.fresh hc
 have nPc : P ≠ c := ne_of_none hP nC
 have at_ : ∀ b, b ≠ P → b ≠ c → upd (upd H P (.tbl (ps ++ more))) c (.frz oc (cdU c)) b = H b := fun b h1 h2 => by rw [upd_ne h2, upd_ne h1]
 have atP : upd (upd H P (.tbl (ps ++ more))) c (.frz oc (cdU c)) P = some (.tbl (ps ++ more)) := by rw [upd_ne nPc, upd_same]
 have nP : ∀ b u, H b = some u → (∀ q, u ≠ .tbl q) → b ≠ P := fun b u e q z => by
   rw [z, hP] at e
   exact q ps (Option.some.inj e).symm
 have nN : ∀ b, H b = none → b ≠ P := fun b e z => by
   rw [z, hP] at e
   cases e
 have lt' : ∀ b o, s.heap.get? b = some o → b ≠ c := fun b o e z => by
   rw [z] at e
   exact Nat.lt_irrefl _ (Nat.lt_of_lt_of_le (Heap.lt_size e) hc)
 have sm : ∀ b u, H b = some u → b ≠ c := fun b u e => ne_of_none e nC
 refine I.step (g' := s.gens) (d' := s.drawn) (ch := []) (fun b hb => absurd hb (by simp)) (fun b o _ _ _ e n => k b o (nN b n) e) (fun b o _ _ _ e n => ⟨o.slots, k b o (nN b n) e⟩)
   (fun b o _ e n => by rw [at_ b (nN b n) (lt' b o e)]; exact n) (fun b o _ e => ?_) (fun b xs e => by rw [at_ b (nP b _ e (fun q z => by cases z)) (sm b _ e)]; exact e) (fun b o u e => by rw [at_ b (nP b _ e (fun q z => by cases z)) (sm b _ e)]; exact e) (fun b qs e => ?_) (fun m hn => ?_) (fun b u e => ?_) I.bare
 · by_cases hb : b = P
   · rw [hb]
     exact ⟨_, hm⟩
   · exact ⟨o, k b o hb e⟩
 · by_cases hb : b = P
   · rw [hb, hP] at e
     cases e
     rw [hb, atP]
     exact ⟨more, rfl⟩
   · rw [at_ b hb (sm b _ e), e]
     exact ⟨#[], by simp⟩
 · obtain ⟨ob, es, ep, ho, r⟩ := hn
   exact ⟨ob, es, ep, k _ ob (nN _ I.free) ho, r⟩
 · by_cases hb : b = c
   · rw [hb, upd_same] at e
     cases e
     rw [hb]
     exact ⟨ho, ⟨_, ho⟩, ⟨_, ho⟩, fun h1 h2 ⟨o, a⟩ st => ⟨o, st _ a⟩⟩
   · by_cases hb2 : b = P
     · rw [hb2, atP] at e
       cases e
       rw [hb2]
       exact hm
     · rw [at_ b hb2 hb] at e
       refine (I.hok b u e).stay (fun d v hd q => k d v ?_ q) (fun d q => by rw [at_ d (nP d _ q (fun q z => by cases z)) (sm d _ q)]; exact q) fun d xs q => by rw [at_ d (nP d _ q (fun q z => by cases z)) (sm d _ q)]; exact q
       rcases hd with z | z
       · rw [z]
         exact hb2
       · exact nP d _ z (fun q z => by cases z)
theorem lam_mk {c P : Addr} {params : Arguments} {body : Expr} {scope : Scope} {pos : Pos} {E : Value → Shared → Prop} {Q : Value → Shared → Prop} (I : Inv X pins σ H s) (hcode : X.env.code = .ref c) (CH : PySem.W.CodeHd s.heap c P) (BM : s.heap.BuiltinsAt X.mg P) (gP : mainGlobals ≠ P)
   (hT : TabF P (X.env.qual ++ "<lambda>") H) (hdef : defaultsOf params X.env = ([], [])) (hfree : ∀ y ∈ scope.names, y.2 = .free → ∃ c, X.env.cells.lookup y.1 = some c)
   (h : ∀ (f c' : Addr) (pm ctv : Value) (H1 : Hp) (s' : Shared), Inv X pins σ H1 s' → Chg [P] H H1 → TabF P (X.env.qual ++ "<lambda>") H1 →
     s'.heap.get? f = some (PySem.W.kla_obj "<lambda>" (X.env.qual ++ "<lambda>") params body scope (cloFrom X.env.cells scope.names []) pm c' ctv) → s'.heap.CodeRec (.ref c') (X.env.qual ++ "<lambda>") → (∀ b o, b ≠ P → s.heap.get? b = some o → s'.heap.get? b = some o) → Q (.ref f) s') :
   wpAny (model X.prog X.w) X.A (eval (.Lambda params body scope pos) X.env) Q E s := by
 obtain ⟨ps, hP, ht, ha⟩ := id hT
 refine PySem.W.kla_eval hdef ?_
 have hP' : s.heap.get? P = some { cls := .none, data := .fields ps } := I.hok P _ hP
 cases hc : codeAmong pos ps.toList with
 | none =>
   refine PySem.W.kla_makeFunction (mg := X.mg) (c := c) (P := P) (ps := ps) (closure_ok hfree) I.ok.glob (I.mod.glob.keeps I.bk) hcode CH hP' ht hc gP BM fun c' ctv h' tk hx hge hlt hrec htb => ?_
   obtain ⟨c2, oc, vs, t, e2, hoc, hd, hv⟩ := id hrec
   cases e2
   have hsz : s.heap.objs.size ≤ h'.objs.size := Nat.le_trans hge (Nat.le_of_lt hlt)
   have nC : H c' = none := I.hok.fresh hge
   have I1 := inv_tab (t' := tk) (more := #[rawInt pos.line, rawInt pos.col, .ref c']) (h' := h'.push (PySem.W.kla_obj "<lambda>" (X.env.qual ++ "<lambda>") params body scope (cloFrom X.env.cells scope.names []) ((X.mg "__name__").getD .none) c' ctv)) I hP
     (fun b o hb e => Heap.get?_push_of_some _ (hx b o hb e)) (Heap.get?_push_of_some _ htb) hge (Heap.get?_push_of_some _ hoc)
   have cg : Chg [P] H _ := tab_chg (qs := ps ++ #[rawInt pos.line, rawInt pos.col, .ref c']) hP nC (oc := oc) fun v z => by rw [hd] at z; cases z
   have eL : (ps ++ #[rawInt pos.line, rawInt pos.col, .ref c']).toList = ps.toList ++ [rawInt pos.line, rawInt pos.col, .ref c'] := by simp
   refine h h'.objs.size c' ((X.mg "__name__").getD .none) ctv _ _ I1 cg ⟨_, by rw [upd_ne (ne_of_none hP nC), upd_same], by rw [eL]; exact PySem.TriplesOk_snoc _ _ _ _ ht, fun p' cv hcv => ?_⟩ (Heap.get?_push_size _ rfl) ⟨c', oc, vs, t, rfl, Heap.get?_push_of_some _ hoc, hd, hv⟩ fun b o hb e => Heap.get?_push_of_some _ (hx b o hb e)
   rw [eL] at hcv
   rcases LamX.among_app _ ht hcv with z | z
   · obtain ⟨c0, oc0, u, vs0, t0, e1, e2, r⟩ := ha p' cv z
     exact ⟨c0, oc0, u, vs0, t0, e1, cg.keep _ _ e2 (.inr trivial), r⟩
   · exact ⟨c', oc, _, vs, t, z, upd_same, hd, hv⟩
 | some cv =>
   obtain ⟨c', oc, u, vs, t, e, hco, hd, hv⟩ := ha pos cv hc
   subst e
   have hoc : s.heap.get? c' = some oc := (I.hok c' _ hco).1
   refine PySem.W.kla_makeFunctionHit (mg := X.mg) (c := c) (P := P) (ps := ps) (closure_ok hfree) I.ok.glob (I.mod.glob.keeps I.bk) hcode CH hP' ht hc BM fun ctv h' tk hx hsz => ?_
   have I1 : Inv X pins σ H { s with heap := h'.push (PySem.W.kla_obj "<lambda>" (X.env.qual ++ "<lambda>") params body scope (cloFrom X.env.cells scope.names []) ((X.mg "__name__").getD .none) c' ctv), toks := tk } := I.kept fun b o e => Heap.get?_push_of_some _ (hx b o e)
   exact h h'.objs.size c' ((X.mg "__name__").getD .none) ctv H _ I1 (Chg.refl H) hT (Heap.get?_push_size _ rfl) ⟨c', oc, vs, t, rfl, Heap.get?_push_of_some _ (hx _ _ hoc), hd, hv⟩ fun b o _ e => Heap.get?_push_of_some _ (hx b o e)
end
end G
namespace G
open PySem PySem.Spec PyProof.Rows L2
def tSortLam (K : PySem.W.Frag) (P : Addr) (q : Str) (i : Nat) (ta : TA) : TE := fun σ H Q => ta σ H fun vs H1 => ∃ (a sp : Addr) (ws : List V) (ks : List Int), vs = [.ref a] ∧ H1 a = some (.rng 0 (ks.length : Int)) ∧ TabF P q H1 ∧ σ[i]? = some (some (.ref sp)) ∧ ks.length ≤ 1000 ∧
 (∀ H2, Chg [P] H1 H2 → SqL K H2 sp ws ∧ ∀ j : Nat, j < ks.length → ∃ tp us, ws[j]? = some (.ref tp) ∧ SqT K H2 tp us ∧ us[0]? = some (.int (ks[j]?.getD 0))) ∧
 ∀ p H2, Chg [P] H1 H2 → TabF P q H2 → H2 p = none → Q (.ref p) (upd H2 p (.lst ((Mi.sortIx ks).map V.int)))
section
variable {X : Cx}
theorem pe_sortLam {k i : Nat} {c P : Addr} {e : Expr} {t : TA} {ys p : Str} {params : Arguments} {scope : Scope} {p0 p1 p2 p3 p4 p5 lpos kpos pos : Pos} {kd : Nat} (hr : Room k X.A) (hg : Gl X "sorted") (hm : X.mg "sorted" = none) (hcode : X.env.code = .ref c)
   (hCH : ∀ h : Heap, X.K.In h → PySem.W.CodeHd h c P) (hBM : ∀ h : Heap, X.K.In h → h.BuiltinsAt X.mg P) (gP : mainGlobals ≠ P) (ha : PA X [e] t) (hN : X.N[i]? = some ys) (hys : X.env.scope.names.lookup ys = some .cell)
   (hdef : defaultsOf params X.env = ([], [])) (hk : scope.kind = .function) (hco : scope.isCoroutine = false) (hgen : scope.isGenerator = false) (hnames : scope.names = [(p, .local), (ys, .free)]) (hpy : p ≠ ys)
   (hbind : ∀ (cl : List (Str × Addr)) (pm cdv ct v : Value), bindArgs (PySem.W.kla_fn "<lambda>" (X.env.qual ++ "<lambda>") params (.Subscript (.Subscript (.Name ys p1) (.Name p p2) p3) (.Constant (.int 0) kd p4) p5) scope cl pm cdv ct) ⟨[v], []⟩ = pure [(p, v)])
   (hd1 : (ys == ("__debug__" : Str)) = false) (hd2 : (p == ("__debug__" : Str)) = false) (hcd : (ys == ("__classdict__" : Str)) = false)
   (he : backTo pos (starEach [e] X.env) = (false, eval e X.env) :: backTo pos (starEach [] X.env) := by rfl) (hpl : (backTo pos (starEach [e] X.env)).any (·.1) = false := by rfl) :
   PE X (.Call (.Name "sorted" p0) [e] [⟨some "key", .Lambda params (.Subscript (.Subscript (.Name ys p1) (.Name p p2) p3) (.Constant (.int 0) kd p4) p5) scope lpos, kpos⟩] pos) (tSortLam X.K P (X.env.qual ++ "<lambda>") i t) := by
 refine ⟨fun pins s σ H Q I h => ?_⟩
 have hfree : ∀ y ∈ scope.names, y.2 = .free → ∃ c, X.env.cells.lookup y.1 = some c := fun y hy e => by
   rw [hnames] at hy
   rcases List.mem_cons.mp hy with rfl | hy
   · cases e
   · rw [List.mem_singleton.mp hy]
     exact I.ok.has _ (.inl hys)
 refine wpAny_Call_Name_kw (ld_blt I hg hm (by rfl) ?_)
 refine PyProof.Rows.callWith_kw (thn (ha.run pos pins s σ H _ I h) fun us s1 ⟨vs, H1, I1, r1, q1⟩ => ?_) he hpl (by rfl) (by rfl)
 obtain ⟨a, sp, ws, ks, rfl, hrng, hT, hσ, hlen, hfacts, hQ⟩ := q1
 obtain rfl := Vals.ref1 r1
 show wpAny _ _ (evalAll ((do let v ← eval (.Lambda params _ scope lpos) X.env; standAt pos; pure v) :: [])) _ _ s1
 refine wpAny_evalAll_cons (wpAny_bind (lam_mk I1 hcode (hCH _ fun a o e => I1.kIn a o e) (hBM _ fun a o e => I1.kIn a o e) gP hT hdef hfree fun f c' pm ctv H2 s2 I2 cg hT2 hobj hcr kp => wpAny_bind (wpAny_standAt (wpAny_pure ?_))))
 refine wpAny_evalAll_nil ?_
 have hrng2 : H2 a = some (.rng 0 (ks.length : Int)) := cg.keep a _ hrng (.inl fun z => by
   rw [List.mem_singleton] at z; subst z
   obtain ⟨ps, e, _⟩ := hT
   rw [hrng] at e; cases e)
 obtain ⟨hsl, htup⟩ := hfacts H2 cg
 obtain ⟨its, rv, pl, hz⟩ := I2.list hsl
 obtain ⟨m, hn, hl⟩ := I2.loc
 obtain ⟨u, ru, l⟩ := hl i ys (.ref sp) hN hσ (.inr (.inl hys))
 obtain rfl : u = .ref sp := ru
 obtain ⟨cc, hcc, hcell⟩ : ∃ cc, X.env.cells.lookup ys = some cc ∧ s2.heap.IsCell cc (some (.ref sp)) := by
   rcases l with ⟨k', _⟩ | ⟨_, cc, e, z⟩
   · have k' : X.env.scope.names.lookup ys = some .local := k'
     rw [hys] at k'; cases k'
   · exact ⟨cc, e, z⟩
 obtain ⟨t1, t2, t3, hr2⟩ := I2.hok a _ hrng2
 have hcl : (cloFrom X.env.cells scope.names []).lookup ys = some cc := by
   have hy : (ys, NameKind.free) ∈ scope.names := by rw [hnames]; simp
   obtain ⟨c2, h2⟩ := mem_lookup (cloFrom_has (cells := X.env.cells) (acc := []) hy)
   rw [h2]
   rcases cloFrom_mem (PySem.mem_of_lookup h2) with hm | ⟨_, e⟩
   · cases hm
   · rw [e, hcc]; rfl
 have n1 : scope.names.lookup ys = some .free := by rw [hnames]; simp [List.lookup_cons, beq_false_of_ne (Ne.symm hpy)]
 have n2 : scope.names.lookup p = some .local := by rw [hnames]; simp [List.lookup_cons]
 have n3 : ∀ x ∈ scope.names, x.2 ≠ .cell := fun x hx => by
   rw [hnames] at hx
   rcases List.mem_cons.mp hx with rfl | hx
   · exact fun z => by cases z
   · rw [List.mem_singleton.mp hx]; exact fun z => by cases z
 show wpAny _ _ (call (.builtin "sorted") [.ref a] [(Str.ofString "key", .ref f)]) _ _ s2
 refine sorted_rangeK hr.hd hr2 hlen hr.units (fun j tj j0 j1 h tk kp2 => ?_) (fun out c0 h0 h' tk a' k0 k1 hsz hat hv => ?_)
 · obtain ⟨tp, us, e1, e2, e3⟩ := htup j.toNat (by omega)
   obtain ⟨w1, ew, rw1⟩ := rv.get e1
   obtain rfl : w1 = .ref tp := rw1
   obtain ⟨its2, rv2, it2, hz2⟩ := I2.tuple e2
   obtain ⟨w2, ew2, ⟨tk2, rfl⟩⟩ := rv2.get e3
   obtain ⟨ol, hol, hcls, hdl⟩ := pl.isList
   have l1 := rv.length
   have l2 := rv2.length
   exact key_call (s := { s2 with heap := h, toks := tk }) (c := cc) (sp := sp) (tp := tp) (its := its) (its2 := its2) ⟨hcl, hcell.keeps kp2, ⟨_, kp2 _ _ hobj, rfl⟩, rfl, rfl, rfl, rfl, rfl, fun v => hbind _ _ _ _ v, hcr.keeps kp2, rfl⟩ rfl
     hr.depth (I2.nolimit.keeps kp2) hk hco hgen n1 n2 n3 ⟨ol, kp2 _ _ hol, hcls, hdl⟩ (by omega) j0 ew (it2.keeps kp2) (by omega) ew2 hd1 hd2 hcd
 · have I3 : Inv X pins σ H2 { s2 with heap := h0, toks := tk } := I2.kept k0
   have z1 : ((Mi.sortIx ks).map V.int).length ≤ sizeLine := by
     have : (1000 : Nat) ≤ sizeLine := by decide
     rw [List.length_map]
     unfold Mi.sortIx Mi.rng
     rw [List.length_mergeSort, List.length_map, List.length_range]
     omega
   exact ⟨.ref a', upd H2 a' (.lst ((Mi.sortIx ks).map V.int)), I3.laid (h' := h') (t' := tk) k1 hsz ⟨z1, out, c0, hv, hat⟩, rfl, hQ a' H2 cg hT2 (I3.hok.fresh hsz)⟩
end
end G
namespace G
open PySem PySem.Spec PyProof.Rows L2
def rRange1 : List V → Hp → VK → Prop := fun vs H Q => ∃ j, vs = [V.int j] ∧ ∀ p, H p = none → Q (.ref p) (upd H p (.rng 0 j))
theorem cr_range1 {X : Cx} : CallR X (.type "range") rRange1 := by
 intro pins s σ H vs us Q I r h
 obtain ⟨j, rfl, q⟩ := h
 obtain ⟨u1, rfl, ⟨t, rfl⟩⟩ := vals1 r
 refine call_range_1 ⟨.ref s.heap.objs.size, upd H s.heap.objs.size (.rng 0 j), I.laid (t' := s.toks + 2) (fun b o e => Heap.get?_push_of_some _ e) (Nat.le_refl _) ?_, rfl, q _ (I.hok.fresh (Nat.le_refl _))⟩
 exact ⟨_, _, _, Heap.get?_push_size _ rfl⟩
def tSL (K : PySem.W.Frag) (P : Addr) (q : Str) (i : Nat) : TE := fun σ H Q => ∃ (sp : Addr) (ws : List V) (ks : List Int), σ[i]? = some (some (.ref sp)) ∧ SqL K H sp ws ∧ ws.length = ks.length ∧ TabF P q H ∧ ks.length ≤ 1000 ∧
 (∀ H2, Chg [P] H H2 → SqL K H2 sp ws ∧ ∀ j : Nat, j < ks.length → ∃ tp us, ws[j]? = some (.ref tp) ∧ SqT K H2 tp us ∧ us[0]? = some (.int (ks[j]?.getD 0))) ∧
 ∀ p H2, Chg [P] H H2 → TabF P q H2 → H2 p = none → Q (.ref p) (upd H2 p (.lst ((Mi.sortIx ks).map V.int)))
theorem tSL_to {K : PySem.W.Frag} {P : Addr} {q : Str} {i : Nat} {σ : L2.St} {H : Hp} {Q : VK} (h : tSL K P q i σ H Q) : tSortLam K P q i (tCons (tCB rRange1 (tCons (tCB (rLenQ K) (tCons (tVar i) tNil)) tNil)) tNil) σ H Q := by
 obtain ⟨sp, ws, ks, h1, h2, h3, h4, h5, h6, h7⟩ := h
 refine w_cons (w_cb (w_cons (w_cb (w_cons ⟨.ref sp, h1, ?_⟩))))
 refine w_nil ⟨sp, ws, rfl, .inl h2, w_nil ⟨_, rfl, fun p np => ?_⟩⟩
 have c0 : Chg [] H (upd H p (.rng 0 (ws.length : Int))) := Chg.lay np trivial
 have c1 : Chg [P] H (upd H p (.rng 0 (ws.length : Int))) := c0.none
 refine w_nil ⟨p, sp, ws, ks, rfl, by rw [upd_same, h3], h4.chg c0 (fun z => nomatch z), h1, h5, fun H2 c => h6 H2 (c1.trans c), fun p2 H2 c t n => h7 p2 H2 (c1.trans c) t n⟩
theorem pe_SL {X : Cx} {k i : Nat} {c P : Addr} {ys p : Str} {params : Arguments} {scope : Scope} {a0 a1 a2 a3 a4 p0 p1 p2 p3 p4 p5 lpos kpos pos : Pos} {kd : Nat} (hr : Room k X.A) (hg : Gl X "sorted") (hm : X.mg "sorted" = none) (hgr : Gl X "range") (hmr : X.mg "range" = none) (hgl : Gl X "len") (hml : X.mg "len" = none)
   (hcode : X.env.code = .ref c) (hCH : ∀ h : Heap, X.K.In h → PySem.W.CodeHd h c P) (hBM : ∀ h : Heap, X.K.In h → h.BuiltinsAt X.mg P) (gP : mainGlobals ≠ P) (hN : X.N[i]? = some ys) (hys : X.env.scope.names.lookup ys = some .cell)
   (hdef : defaultsOf params X.env = ([], [])) (hk : scope.kind = .function) (hco : scope.isCoroutine = false) (hgen : scope.isGenerator = false) (hnames : scope.names = [(p, .local), (ys, .free)]) (hpy : p ≠ ys)
   (hbind : ∀ (cl : List (Str × Addr)) (pm cdv ct v : Value), bindArgs (PySem.W.kla_fn "<lambda>" (X.env.qual ++ "<lambda>") params (.Subscript (.Subscript (.Name ys p1) (.Name p p2) p3) (.Constant (.int 0) kd p4) p5) scope cl pm cdv ct) ⟨[v], []⟩ = pure [(p, v)])
   (hd1 : (ys == ("__debug__" : Str)) = false) (hd2 : (p == ("__debug__" : Str)) = false) (hcd : (ys == ("__classdict__" : Str)) = false) :
   PE X (.Call (.Name "sorted" p0) [.Call (.Name "range" a0) [.Call (.Name "len" a1) [.Name ys a2] [] a3] [] a4] [⟨some "key", .Lambda params (.Subscript (.Subscript (.Name ys p1) (.Name p p2) p3) (.Constant (.int 0) kd p4) p5) scope lpos, kpos⟩] pos) (tSL X.K P (X.env.qual ++ "<lambda>") i) := by
 have ha : PA X [.Call (.Name "range" a0) [.Call (.Name "len" a1) [.Name ys a2] [] a3] [] a4] (tCons (tCB rRange1 (tCons (tCB (rLenQ X.K) (tCons (tVar i) tNil)) tNil)) tNil) :=
   pa_cons (pe_callTy cr_range1 hgr hmr (by rfl) (pa_cons (pe_callB (cl_len (K := X.K) rfl) hgl hml (by rfl) (pa_cons (pe_var hN (.inr (.inl hys)) hd1 hcd) pa_nil)) pa_nil)) pa_nil
 exact ⟨fun pins s σ H Q I h => (pe_sortLam hr hg hm hcode hCH hBM gP ha hN hys hdef hk hco hgen hnames hpy hbind hd1 hd2 hcd).run pins s σ H Q I (tSL_to h)⟩
theorem pr_getN {α β : Type} {R : α → β → Prop} : ∀ {xs : List α} {ys : List β}, Paired R xs ys → ∀ {j : Nat} {y : β}, ys[j]? = some y → ∃ x, xs[j]? = some x ∧ R x y
 | _, _, .nil, j, y, h => by cases h
 | x :: xs, y :: ys, .cons r t, 0, z, h => by cases Option.some.inj h; exact ⟨x, rfl, r⟩
 | x :: xs, y :: ys, .cons r t, j + 1, z, h => pr_getN t (j := j) h
theorem w_SL {K : PySem.W.Frag} {P : Addr} {q : Str} {i : Nat} {σ : L2.St} {H : Hp} {Q : VK} {F : List Addr} {v : V} {xs : List (Int × Int)} (r : (yLst (yTup (sCons yInt (sOne yInt)))).rep K H F v xs) (hs : σ[i]? = some (some v)) (t : TabF P q H) (hl : xs.length ≤ 1000)
   (k : ∀ (p : Addr) (H2 : Hp), H p = none → Chg [P] H H2 → TabF P q H2 → (yLst yInt).rep K H2 [p] (.ref p) (Mi.sortIx (xs.map (·.1))) → Q (.ref p) H2) : tSL K P q i σ H Q := by
 obtain ⟨a, vs, rfl, rfl, g, pr⟩ := r
 have na : a ∉ [P] := fun z => by
   rw [List.mem_singleton] at z; subst z
   obtain ⟨ps, e, _⟩ := t
   rw [g] at e; cases e
 have vl := pr.length
 refine ⟨a, vs, xs.map (·.1), hs, .inl (.inl g), by rw [List.length_map]; exact vl, t, by rw [List.length_map]; exact hl, fun H2 c => ⟨.inl (.inl (c.keep a _ g (.inl na))), fun j hj => ?_⟩, fun p H2 c t2 np => ?_⟩
 · rw [List.length_map] at hj
   obtain ⟨u, eu, ru⟩ := pr_getN pr (List.getElem?_eq_getElem hj)
   obtain ⟨tp, us, rfl, sq, qq⟩ := ru
   obtain ⟨u0, F0, e0, r0, _⟩ := at0 qq
   obtain ⟨rfl, rfl⟩ := r0
   refine ⟨tp, us, eu, SqT.keeps sq fun b o hb fz => c.keep b o hb (.inr fz), ?_⟩
   rw [e0, List.getElem?_map, List.getElem?_eq_getElem hj]; rfl
 · have c2 : Chg [] H2 (upd H2 p (.lst ((Mi.sortIx (xs.map (·.1))).map V.int))) := Chg.lay np trivial
   refine k p _ (c.dom p np) (c.trans c2.none) (t2.chg c2 fun z => nomatch z) ⟨p, _, rfl, rfl, upd_same, ?_⟩
   generalize Mi.sortIx (xs.map (·.1)) = L
   induction L with
   | nil => exact .nil
   | cons x L ih => exact .cons ⟨rfl, rfl⟩ ih
theorem w_SLo {K : PySem.W.Frag} {P : Addr} {q : Str} {i : Nat} {σ : L2.St} {H : Hp} {Q : VK} {F : List Addr} {v : V} {xs : List (Int × Int)} (r : (yLst (yTup (sCons yInt (sOne yInt)))).rep K H F v xs) (hs : σ[i]? = some (some v)) (t : (yTab P q).rep K H [P] (.ref P) ()) (hm : Mi.guardO (decide (xs.length ≤ 1000)) = some ())
   (k : ∀ (p : Addr) (H2 : Hp), H p = none → Chg [P] H H2 → (yTab P q).rep K H2 [P] (.ref P) () → (yLst yInt).rep K H2 [p] (.ref p) (Mi.sortIx (xs.map (·.1))) → Q (.ref p) H2) : tSL K P q i σ H Q := by
 unfold Mi.guardO at hm
 split at hm
 · rename_i hl
   exact w_SL r hs t.2.2 (of_decide_eq_true hl) fun p H2 n c t2 r2 => k p H2 n c ⟨rfl, rfl, t2⟩ r2
 · cases hm
end G
namespace G
open PySem PySem.Spec PyProof.Rows L2
structure TabAt (K : PySem.W.Frag) (mg : Str → Option Value) (fd : FuncData) (P : Addr) : Prop where
 c : ∃ c, fd.code = .ref c ∧ ∀ h : Heap, K.In h → PySem.W.CodeHd h c P
 bm : ∀ h : Heap, K.In h → h.BuiltinsAt mg P
 g : mainGlobals ≠ P
structure DfnT (K : PySem.W.Frag) (mg : Str → Option Value) (x : Str) (st : Stmt) (P : Addr) : Prop where
 ex : ∃ f fd, Fun K x x st f fd ∧ mg x = some (.ref f) ∧ TabAt K mg fd P
theorem fun_okC {P : Program} {w : World} {K : PySem.W.Frag} {mg : Str → Option Value} {base : Heap} {x qual : Str} {st : Stmt} {f : Addr} {fd : FuncData} {N ps : List Str} {k : Nat} {sp : Sp} (F : Fun K x qual st f fd) (S : FnScope N ps (defScope st)) (len : ∀ vs H Q E, sp vs H Q E → vs.length = ps.length)
   (hbody : ∀ (cdv : Value) (A : Around) (outer : List Env) (s : Shared) (H : Hp) (vs : List V) (Q : VK) (E : XK), fd.code = cdv → Room k (A.deeper (envOfC qual (defScope st) s.heap.objs.size f cdv)) → sp vs H Q E →
     ∃ t, PSs (cxOf CX0 P w K mg base N qual (defScope st) f cdv A outer s H E).nox (defBody st) t ∧ t { nx := fun _ H' => Q .non H', rt := Q } (start N vs) H) : FnOk P w K mg base CX0 (k + 1) f fd ps sp := by
 obtain ⟨oc, od, kV, doc, pm, an, cdv, ct, osl, rfl, lk, hcd⟩ := F.ex
 refine L2.fn_of lk hcd S len fun A outer s H vs Q E hr hsp => ?_
 obtain ⟨t, h, q⟩ := hbody cdv A outer s H vs Q E rfl hr hsp
 exact ⟨t, h.nox, q⟩
def tabC (K : PySem.W.Frag) (x : Str) : Addr × Addr := match K.lookup (He.ga K x) with
 | some ⟨_, _, .func fd, _⟩ => (match fd.code with
   | .ref c => (match K.lookup c with
     | some ⟨_, _, .fields vs, _⟩ => (match vs.getD 11 .none with
       | .ref P => (c, P)
       | _ => (0, 0))
     | _ => (0, 0))
   | _ => (0, 0))
 | _ => (0, 0)
def codeB (K : PySem.W.Frag) (c P : Addr) : Bool := match K.lookup c with
 | some ⟨.type "code", _, .fields vs, _⟩ => (match (vs[11]? : Option Value), (vs.getD 11 .none : Value), (vs.getD 18 .none : Value), (vs.getD 7 .none : Value), (vs.getD 9 .none : Value), (vs.getD 10 .none : Value) with
   | some (.ref P1), .ref P2, .str _ _, .int _ _, .bool _, .int _ _ => decide (P1 = P) && (decide (P2 = P) && decide (c ≠ P))
   | _, _, _, _, _, _ => false)
 | _ => false
theorem codeB_ok {K : PySem.W.Frag} {c P : Addr} (e : codeB K c P = true) {h : Heap} (X : K.In h) : PySem.W.CodeHd h c P := by
 unfold codeB at e
 split at e
 · rename_i d vs sl hl
   split at e
   · rename_i P1 P2 f tf fl tg b tx tt h1 h2 h3 h4 h5 h6
     rw [Bool.and_eq_true, Bool.and_eq_true, decide_eq_true_iff, decide_eq_true_iff, decide_eq_true_iff] at e
     obtain ⟨rfl, rfl, e3⟩ := e
     exact ⟨_, vs, f, tf, fl, tg, b, tx, tt, X _ _ hl, rfl, rfl, h1, h2, h3, h4, h5, h6, e3⟩
   · cases e
 · cases e
def bmB (K : PySem.W.Frag) (P : Addr) : Bool := decide (PySem.W.nsIn K mainGlobals "__builtins__" = some (some (.ref (He.ga K "__builtins__")))) && (decide (He.ga K "__builtins__" ≠ builtinsNs) && (decide (He.ga K "__builtins__" ≠ mainGlobals) && (decide (He.ga K "__builtins__" ≠ P) && (match K.lookup (He.ga K "__builtins__") with
 | some ⟨.type "module", some d, .plain, _⟩ => decide (d = builtinsNs)
 | _ => false))))
theorem bmB_ok {K : PySem.W.Frag} {P : Addr} {mg : Str → Option Value} (e : bmB K P = true) {h0 : Heap} (X0 : K.In h0) (G0 : h0.Ns mainGlobals mg) {h : Heap} (X : K.In h) : h.BuiltinsAt mg P := by
 unfold bmB at e
 simp only [Bool.and_eq_true, decide_eq_true_iff] at e
 obtain ⟨e1, e2, e3, e4, e5⟩ := e
 split at e5
 · rename_i d sl hl
   have e5 := of_decide_eq_true e5
   subst e5
   exact ⟨_, _, PySem.W.mg_of X0 G0 e1, e2, e3, e4, X _ _ hl, rfl, rfl, rfl⟩
 · cases e5
def tab0 : Option Obj → Bool
 | some ⟨.none, none, .fields vs, sl⟩ => decide (vs.size = 0) && decide (sl.size = 0)
 | _ => false
theorem tab0_ok {o : Option Obj} (e : tab0 o = true) : o = some { cls := .none, data := .fields #[] } := by
 unfold tab0 at e
 split at e
 · rename_i vs sl
   rw [Bool.and_eq_true, decide_eq_true_iff, decide_eq_true_iff] at e
   rw [Array.eq_empty_of_size_eq_zero e.1, Array.eq_empty_of_size_eq_zero e.2]
 · cases e
def cdB (K : PySem.W.Frag) (x : Str) : Bool := match K.lookup (He.ga K x) with
 | some ⟨_, _, .func fd, _⟩ => decide (fd.code = .ref (tabC K x).1)
 | _ => false
def tabB (K : PySem.W.Frag) (x : Str) : Bool := cdB K x && ((match K.lookup (tabC K x).2 with
 | none => true
 | some _ => false) && (codeB K (tabC K x).1 (tabC K x).2 && (bmB K (tabC K x).2 && decide (mainGlobals ≠ (tabC K x).2))))
def frTB (L : List Addr) (x : Str) (g : Addr → Option Obj) : PySem.W.Frag := He.frG g ((L ++ [cStatics]).filter fun a => !decide (a = (tabC (frL L g) x).2))
abbrev AlTB := (He.AlD × Bool) × Bool × Bool
def obsTBL (L : List Addr) (x : Str) (fa : List He.Fa) (fn : List He.DefD) (ex : PySem.W.Frag → Bool) (g : Addr → Option Obj) : AlTB := ((He.obsD fa fn (frTB L x g), ex (frTB L x g)), tabB (frTB L x g) x, tab0 (g (tabC (frTB L x g) x).2))
structure SaysTB (fa : List He.Fa) (fn : List He.DefD) (ex : PySem.W.Frag → Bool) (x : Str) (K : PySem.W.Frag) (h : Heap) : Prop where
 d : He.SaysD fa fn K
 e : ex K = true
 t : tabB K x = true
 z : tab0 (h.get? (tabC K x).2) = true
def hookTBL (L : List Addr) (x : Str) (fa : List He.Fa) (fn : List He.DefD) (ex : PySem.W.Frag → Bool) : PySem.W.Hook where
 α := AlTB
 obs := fun s => obsTBL L x fa fn ex s.heap.get?
 val := fun _ => ((He.valD fn, true), true, true)
 says := fun _ h => ∃ K : PySem.W.Frag, K.In h ∧ SaysTB fa fn ex x K h
 of := fun _ _ e => ⟨_, He.frG_in, congrArg (fun z : AlTB => z.1.1) e, congrArg (fun z : AlTB => z.1.2) e, congrArg (fun z : AlTB => z.2.1) e, congrArg (fun z : AlTB => z.2.2) e⟩
 keeps := fun _ _ _ ⟨K, hK, c⟩ k => ⟨K, PySem.W.Frag.In.keeps hK k, c.d, c.e, c.t, by rw [k _ _ (tab0_ok c.z)]; rfl⟩
theorem obsTBL_eq {L : List Addr} {x : Str} {fa : List He.Fa} {fn : List He.DefD} {ex : PySem.W.Frag → Bool} {g : Addr → Option Obj} {s : Shared} (h : ∀ a, g a = s.heap.get? a) : obsTBL L x fa fn ex g = (hookTBL L x fa fn ex).obs s := by
 have e : g = s.heap.get? := funext h
 rw [e] <;> rfl
theorem tab_at {K : PySem.W.Frag} {x : Str} {st : Stmt} {mg : Str → Option Value} {h0 : Heap} (X0 : K.In h0) (G0 : h0.Ns mainGlobals mg) (e : tabB K x = true) {fd : FuncData} (F : Fun K x x st (He.ga K x) fd) : K.lookup (tabC K x).2 = none ∧ (∀ h : Heap, K.In h → PySem.W.CodeHd h (tabC K x).1 (tabC K x).2) ∧ TabAt K mg fd (tabC K x).2 := by
 unfold tabB at e
 rw [Bool.and_eq_true, Bool.and_eq_true, Bool.and_eq_true, Bool.and_eq_true, decide_eq_true_iff] at e
 obtain ⟨e0, e1, e2, e3, e4⟩ := e
 have n : K.lookup (tabC K x).2 = none := by
   split at e1
   · assumption
   · cases e1
 refine ⟨n, fun h X => codeB_ok e2 X, ⟨(tabC K x).1, ?_, fun h X => codeB_ok e2 X⟩, fun h X => bmB_ok e3 X0 G0 X, e4⟩
 obtain ⟨oc, od, kV, doc, pm, an, cdv, ct, osl, e, lk, hcd⟩ := F.ex
 unfold cdB at e0
 rw [lk] at e0
 exact of_decide_eq_true e0
end G
namespace L2
open PySem PySem.Spec PyProof.Rows
section
variable {X : Cx}
theorem ps_setSTI {i : Nat} {y : Str} {py : Pos} {elt tg iter : Expr} {ifs : List Expr} {sc : Scope} {own : List (Str × Nat)} {pos spos : Pos} {wi : TI} {g : TG} {tt : TT} {te : TE} (hu : X.A.units + 64 < cLine) (hc : X.calm = true) (nd : X.N.Nodup) (hy : X.N[i]? = some y) (hyl : X.env.scope.names.lookup y = some .local)
   (hsw : swapsWith (.SetComp elt [⟨tg, iter, ifs, 0⟩] sc pos) (some (.Name y py)) spos.line X.env = pure true) (hi : PI X tg iter wi) (ok : BlkOk X.N X.env.scope sc own)
   (hg : ∀ (z : Shared) (H : Hp) (C : Addr) (cl : List (Str × Addr)) (fp : List Addr), PG (X.blk z H sc (compEnvC sc cl C X.env) fp) tg g) (ht : ∀ (z : Shared) (H : Hp) (C : Addr) (cl : List (Str × Addr)) (fp : List Addr), PTs (X.blk z H sc (compEnvC sc cl C X.env) fp) ifs tt)
   (he : ∀ (z : Shared) (H : Hp) (C : Addr) (cl : List (Str × Addr)) (fp : List Addr), PE (X.blk z H sc (compEnvC sc cl C X.env) fp) elt te) (hs : ∀ x, foldedSetIterable iter X.env x = pure x := by intro _; rfl) :
   PS X (.Assign [.Name y py] (.SetComp elt [⟨tg, iter, ifs, 0⟩] sc pos) spos) (tAsg (tScI X.K X.prog X.w wi g tt te (own.map (·.2))) (gName i)) := by
 refine ⟨fun pins s σ H D I h => ?_⟩
 rw [exec_Assign_Name_used _ _ _ _ hsw]
 refine wpAny_bind (wpAny_standAt (wpAny_bind ?_))
 show wpAny _ X.A (do let _ ← comprehension (.SetComp elt [⟨tg, iter, ifs, 0⟩] sc pos) sc X.env (firstIterPos [⟨tg, iter, ifs, 0⟩] pos) (newSet (.type "set")) false (eval iter X.env) (some (assign (.Name y py) X.env))) _ _ s
 have q0 : tScI X.K X.prog X.w wi g tt te (own.map (·.2)) σ H (fun x H1 => gName i x σ H1 D.nx) := h
 refine wpAny_bind (thn (scI_core (Qf := fun _ s' => SP X pins D .next s') hu hc nd I hi ok hg ht he hs q0 fun L C s' m H' I' q hn f => ?_) fun _ s' hq => wpAny_pure (wpAny_pure hq))
 show wpAny _ _ (assign (.Name y py) X.env (.ref L)) _ _ _
 refine wpAny_assign_Name (store_ok2 (v := V.ref L) I' nd hy (.inl hyl) rfl (fun s2 I2 ⟨a, sb, ha⟩ => ?_) (.inr hyl))
 have hCa : C ≠ a := by
   rcases ha with z | z
   · rw [z]; exact f.2.1
   · exact fun e => f.2.2.2.2.1 y a z e.symm
 refine ⟨m, hn.sameBut sb hCa, fun h3 sb3 => ?_⟩
 exact ⟨_, H', I2.turned (t' := s2.toks) (fun b o hb e => (sb3.2 b hb).trans e) f.1 f.2.1 f.2.2.2.1 f.2.2.2.2.1 f.2.2.2.2.2, q⟩
end
end L2
namespace G
open PySem PySem.Spec PyProof.Rows L2
def spScr (sp : Sp) : Sp := fun vs H Q E => ∃ a, vs = [V.ref a] ∧ (((∀ xs, H a ≠ some (.lst xs)) ∧ sp vs H Q E) ∨ ∃ xs, H a = some (.lst xs) ∧ ∀ o, sp vs (upd H a (.frz o (.lst xs))) Q E)
theorem un_frz {fs ex : List Addr} {H H' : Hp} {h h' : Heap} {a : Addr} {o : Obj} {xs : List V} (ha : H a = some (.lst xs)) (u : Un fs ex (upd H a (.frz o (.lst xs))) H' h h') : Un fs ex H H' h h' := by
 have n0 : ∀ b, H b = none → upd H a (.frz o (.lst xs)) b = none := fun b e => by
   rw [upd_ne (fun z => by rw [z, ha] at e; cases e)]; exact e
 have n1 : ∀ b v, H b = some v → (∀ ys, v ≠ .lst ys) → upd H a (.frz o (.lst xs)) b = some v := fun b v e d => by
   rw [upd_ne (fun z => by rw [z, ha] at e; exact d xs (Option.some.inj e).symm)]; exact e
 exact ⟨fun b o e n => u.keep b o e (n0 b n), fun b o e n => u.slot b o e (n0 b n), fun b o e n => u.free b o e (n0 b n), u.there, fun b ys e => u.tups b ys (n1 b _ e (fun _ z => by cases z)), fun b o v e => u.frzs b o v (n1 b _ e (fun _ z => by cases z)), fun b ps e => u.tbls b ps (n1 b _ e (fun _ z => by cases z))⟩
theorem fn_script {P : Program} {w : World} {K : PySem.W.Frag} {mg : Str → Option Value} {base : Heap} {k : Nat} {f : Addr} {fd : FuncData} {x : Str} {sp : Sp} (F : FnOk P w K mg base CX0 k f fd [x] sp) : FnOk P w K mg base CX0 k f fd [x] (spScr sp) := by
 refine ⟨fun vs H Q E ⟨a, e, _⟩ => by rw [e]; rfl, fun A outer s H args us vs Q E hr he hb hv ⟨a, e, h⟩ => ?_⟩
 rcases h with ⟨_, h⟩ | ⟨xs, ha, h⟩
 · exact F.run A outer s H args us vs Q E hr he hb hv h
 · obtain ⟨hl, its, n, rv, ho⟩ := he.hok a _ ha
   have n0 : ∀ b, H b = none → upd H a (.frz { cls := .type "list", data := .seq its.toArray n } (.lst xs)) b = none := fun b e => by
     rw [upd_ne (fun z => by rw [z, ha] at e; cases e)]; exact e
   have hk : HOk P w (upd H a (.frz { cls := .type "list", data := .seq its.toArray n } (.lst xs))) s.heap := fun b v e => by
     by_cases z : b = a
     · rw [z, upd_same] at e
       cases e
       rw [z]
       exact ⟨ho, hl, its, n, rv, ho⟩
     · rw [upd_ne z] at e
       refine (he.hok b v e).stay (fun _ _ _ q => q) (fun d q => ?_) fun d ys q => ?_
       · rw [upd_ne (fun z => by rw [z, ha] at q; cases q)]; exact q
       · rw [upd_ne (fun z => by rw [z, ha] at q; cases q)]; exact q
   refine codeAny_mono (F.run A outer s _ args us vs Q E hr ⟨he.frames, he.mod, fun b o e => ⟨(he.bs b o e).1, n0 b (he.bs b o e).2⟩, he.bsz, he.funs, fun b m => n0 b (he.frf b m), hk, he.bare⟩ hb hv (h _)) fun r s' q => ?_
   cases r with
   | error e => exact q
   | ok fl =>
     cases fl with
     | next => exact q
     | brk => exact q
     | cont => exact q
     | ret u =>
       obtain ⟨v, H', os, br, un, hok', r', z⟩ := q
       exact ⟨v, H', os, br, un_frz ha un, hok', r', z⟩
theorem spScr_of {K : PySem.W.Frag} {sp : Sp} {H : Hp} {a : Addr} {ns : List Int} {Q : VK} {E : XK} (s : SqL K H a (ns.map V.int)) (h : ∀ H2 : Hp, (∀ b ps, H b = some (.tbl ps) → H2 b = some (.tbl ps)) → yScr.rep K H2 [] (.ref a) ns → sp [.ref a] H2 Q E) : spScr sp [.ref a] H Q E := by
 refine ⟨a, rfl, ?_⟩
 by_cases z : ∃ xs, H a = some (.lst xs)
 · obtain ⟨xs, z⟩ := z
   refine .inr ⟨xs, z, fun o => h _ (fun b ps e => by rw [upd_ne (fun y => by rw [y, z] at e; cases e)]; exact e) ⟨rfl, a, rfl, fun H' k => ?_⟩⟩
   rcases s with (s | ⟨ob, s⟩) | s
   · rw [z] at s
     obtain rfl : xs = ns.map V.int := by cases s; rfl
     exact .inl (.inr ⟨o, k a _ upd_same trivial⟩)
   · rw [z] at s; cases s
   · exact .inr s
 · refine .inl ⟨fun xs e => z ⟨xs, e⟩, h H (fun _ _ e => e) ⟨rfl, a, rfl, fun H' k => ?_⟩⟩
   rcases s with (s | ⟨ob, s⟩) | s
   · exact absurd ⟨_, s⟩ z
   · exact .inl (.inr ⟨ob, k _ _ s trivial⟩)
   · exact .inr s
end G
namespace G
open PySem PySem.Spec PyProof.Rows L2
def topS (i : Nat) : Stmt := PySem.Challenge.pw_fogfleet_k42_berths.main.body.getD i (.Pass ⟨0, 0, 0, 0⟩)
abbrev tqS : Str := ("berths" : Str) ++ (".<locals>." : Str) ++ ("<lambda>" : Str)
structure Cs (K : PySem.W.Frag) (mg : Str → Option Value) : Prop where
 tt : True
section
variable {P : Program} {w : World} {K : PySem.W.Frag} {mg : Str → Option Value}
abbrev s_overlap : Stmt := topS 1
theorem sc_overlap : FnScope ["one", "other"] ["one", "other"] (defScope s_overlap) := ⟨rfl, rfl, rfl, by decide +kernel, rfl, by decide +kernel, by decide +kernel⟩
def sp_overlap (K : PySem.W.Frag) : Sp := fun vs H Q _ => ∃ (v0 : V) (d0 : (Int × Int)) (v1 : V) (d1 : (Int × Int)) (r : Bool), vs = [v0, v1] ∧ (yTup (sCons yInt (sOne yInt))).rep K H [] v0 d0 ∧ (yTup (sCons yInt (sOne yInt))).rep K H [] v1 d1 ∧ Mi.m_overlap d0 d1 = some r ∧ ∀ H', Chg ([]) H H' → Q (.bl r) H'
theorem ok_overlap (B : Bi mg) (CN : Cs K mg) (D : Dfn K mg "overlap" s_overlap)  : Cal P w K mg "overlap" ["one", "other"] 1 (sp_overlap K) := by
 obtain ⟨f, fd, F, g⟩ := D.ex
 refine ⟨f, fd, g, F.kp, bindsF F (fun _ _ _ _ _ _ us hl => match us, hl with | [_, _], _ => rfl), fun base => F.ok sc_overlap (fun vs H Q E h => ?_) (fun cdv A outer s H0 vs Q E hr h => ?_)⟩
 · obtain ⟨v0, d0, v1, d1, r, rfl, r0, r1, hm, hQ⟩ := h; rfl
 ·
   obtain ⟨v0, d0, v1, d1, r, rfl, r0, r1, hm, hQ⟩ := h
   refine ⟨_, pss_cons (ps_ret (pe_and (pe_cmpR op_le (pe_ix (ix_t (K := K)) (pv 0) pe_int (fun _ _ => rfl)) (pe_ix (ix_t (K := K)) (pv 1) pe_int (fun _ _ => rfl)) (nomark _)) (pe_one (pe_cmpR op_le (pe_ix (ix_t (K := K)) (pv 1) pe_int (fun _ _ => rfl)) (pe_ix (ix_t (K := K)) (pv 0) pe_int (fun _ _ => rfl)) (nomark _))))) pss_nil, ?_⟩
   have c0 : Chg ([] : List Addr) H0 H0 := Chg.refl H0
   unfold Mi.m_overlap at hm
   refine q_ret ?_
   obtain ⟨u3, F4, r5, su6, kx7, ku8⟩ := itm_tup (n := 0) at0 r0
   obtain ⟨rfl, rfl⟩ := r5
   obtain ⟨u9, F10, r11, su12, kx13, ku14⟩ := itm_tup (n := 1) (atS at1) r1
   obtain ⟨rfl, rfl⟩ := r11
   obtain ⟨u16, F17, r18, su19, kx20, ku21⟩ := itm_tup (n := 0) at0 r1
   obtain ⟨rfl, rfl⟩ := r18
   obtain ⟨u22, F23, r24, su25, kx26, ku27⟩ := itm_tup (n := 1) (atS at1) r0
   obtain ⟨rfl, rfl⟩ := r24
   refine c_val (val_andV (val_le (ku8 (val_var rfl) val_c) (ku14 (val_var rfl) val_c)) (fun _ => (val_le (ku21 (val_var rfl) val_c) (ku27 (val_var rfl) val_c)))) ?_
   obtain rfl := Option.some.inj hm
   exact hQ _ c0 
abbrev s_busy_hour : Stmt := topS 2
abbrev N_busy_hour : List Str := ["spans", "count", "hour", "first", "last"]
theorem sc_busy_hour : FnScope ["spans", "count", "hour", "first", "last"] ["spans", "count"] (defScope s_busy_hour) := ⟨rfl, rfl, rfl, by decide +kernel, rfl, by decide +kernel, by decide +kernel⟩
def sp_busy_hour (K : PySem.W.Frag) : Sp := fun vs H Q _ => ∃ (v0 : V) (F0 : List Addr) (d0 : (List (Int × Int))) (d1 : Int) (r : (Option Int)), vs = [v0, (.int d1)] ∧ (yLst (yTup (sCons yInt (sOne yInt)))).rep K H F0 v0 d0 ∧ Mi.m_busy_hour d0 d1 = some r ∧ ∀ v H', Chg ([]) H H' → (yOpt yInt).rep K H' [] v r → Q v H'
theorem ok_busy_hour (B : Bi mg) (CN : Cs K mg) (D : Dfn K mg "busy_hour" s_busy_hour)  : Cal P w K mg "busy_hour" ["spans", "count"] 1 (sp_busy_hour K) := by
 obtain ⟨f, fd, F, g⟩ := D.ex
 refine ⟨f, fd, g, F.kp, bindsF F (fun _ _ _ _ _ _ us hl => match us, hl with | [_, _], _ => rfl), fun base => F.ok sc_busy_hour (fun vs H Q E h => ?_) (fun cdv A outer s H0 vs Q E hr h => ?_)⟩
 · obtain ⟨v0, F0, d0, d1, r, rfl, r0, hm, hQ⟩ := h; rfl
 ·
   obtain ⟨v0, F0, d0, d1, r, rfl, r0, hm, hQ⟩ := h
   refine ⟨_, pss_cons (ps_for PassesOwn.never rfl (pi_list (pe_callB (cl_sortedL (K := K)) (by rfl) B.sorted (by decide +kernel) (pa_cons (pe_lc (own := [("first", 3), ("last", 4)]) rfl sc_busy_hour.nd (pi_list (pv 0)) (blkOk_by (own := [("first", 3), ("last", 4)]) (N := N_busy_hour) (sc := defScope s_busy_hour) (by decide +kernel)) (fun _ _ _ _ _ => (pg_tupk (K := K) (n := 2) rfl (pgs_cons (pg_name (i := 3) sc_busy_hour.nd rfl (.inl rfl)) (pgs_cons (pg_name (i := 4) sc_busy_hour.nd rfl (.inl rfl)) pgs_nil)))) (fun _ _ _ _ _ => pts_nil) (fun _ _ _ _ _ => (pv 3))) pa_nil))) (pg_name (i := 2) sc_busy_hour.nd rfl (.inr rfl)) (pss_cons (ps_if (pt_cmpR op_eq (pe_callB (cl_len (K := K)) (by rfl) B.len PySem.boot_len (pa_cons (pe_lc (own := [("first", 3), ("last", 4)]) rfl sc_busy_hour.nd (pi_list (pv 0)) (blkOk_by (own := [("first", 3), ("last", 4)]) (N := N_busy_hour) (sc := defScope s_busy_hour) (by decide +kernel)) (fun _ _ _ _ _ => (pg_tupk (K := K) (n := 2) rfl (pgs_cons (pg_name (i := 3) sc_busy_hour.nd rfl (.inl rfl)) (pgs_cons (pg_name (i := 4) sc_busy_hour.nd rfl (.inl rfl)) pgs_nil)))) (fun _ _ _ _ _ => (pts_one (pt_chain op_le op_le (pv 3) (pv 2) (pv 4)))) (fun _ _ _ _ _ => (pv 3))) pa_nil)) (pv 1) (nomark _)) (pss_cons (ps_ret (pv 2)) pss_nil) (pss_nil))
     (pss_nil)))
     (pss_cons (ps_ret pe_non) pss_nil), ?_⟩
   have c0 : Chg ([] : List Addr) H0 H0 := Chg.refl H0
   unfold Mi.m_busy_hour at hm
   refine q_for ?_
   refine w_iList ?_
   refine w_cb ?_
   refine w_cons ?_
   refine w_lc ?_
   refine w_iList ?_
   refine c_val (val_var rfl) ?_
   obtain ⟨e3, he3, hm⟩ := Mi.bnd hm
   refine kc_lst (K := K) (τ := yInt) r0 (fun D5 i H' => ∃ (s4 : (List Int)), Chg ([] : List Addr) H0 H' ∧ (yLst (yTup (sCons yInt (sOne yInt)))).rep K H' F0 v0 d0 ∧ (yLst yInt).rep K H' [D5] (.ref D5) s4 ∧ Dj F0 [D5] ∧ (∀ a ∈ [D5], H0 a = none) ∧ Mi.forN (Mi.m_busy_hour_b1) s4 (List.drop i d0) = some e3) (fun D5 H12 np11 c10 r6 => ⟨([] : (List Int)), c0.trans c10.none, (Ty.ex r0 c10), r6, Ty.nin r0 np11, one_fresh (c0.dom D5 np11), he3⟩) (fun D5 i H' hp => by obtain ⟨s4, c0, r0, r6, d7, n9, _⟩ := hp; exact r0) (fun D5 i15 x14 u17 H16 hx13 r18 hp => ?_) (fun D5 H' np11 hp => ?_)
   ·
     obtain ⟨s4, c0, r0, r6, d7, n9, hle3⟩ := hp
     obtain ⟨_, hbe3, hle3⟩ := Mi.forN_go hle3 hx13
     unfold Mi.m_busy_hour_b1 at hbe3
     refine g_tup2 r18 fun u23 u24 r25 r26 => ?_
     obtain ⟨_, rfl⟩ := r25
     obtain ⟨_, rfl⟩ := r26
     refine ⟨rfl, ?_⟩
     refine st_eqT (σ' := [some v0, some (.int d1), none, some (.int x14.1), some (.int x14.2)]) rfl ?_
     refine w_yes ?_
     refine iteT ?_
     refine c_val (val_var rfl) ?_
     obtain ⟨x27, hx27, hbe3⟩ := Mi.bnd hbe3
     refine e_app r6 yInt_i hx27 fun H29 c28 r6 => ?_
     have r0 := Ty.chg r0 c28 d7
     have c0 := c0.join c28 (fun a h => .inr (n9 a h))
     obtain rfl := Option.some.inj hbe3
     exact ⟨x27, c0, r0, r6, d7, n9, hle3⟩
   obtain ⟨s4, c0, r0, r6, d7, n9, hle3⟩ := hp
   obtain rfl := Mi.forN_end hle3
   refine w_nil ?_
   refine w_sortedL r6 fun p30 H34 np33 c31 r32 => ?_
   have d35 : Dj F0 [p30] := Ty.nin r0 np33
   have d36 : Dj [D5] [p30] := Ty.nin r6 np33
   have n37 : ∀ a ∈ [p30], H0 a = none := one_fresh (c0.dom p30 np33)
   have r0 := Ty.ex r0 c31
   have r6 := Ty.ex r6 c31
   have c0 := c0.trans c31.none
   obtain ⟨e38, he38, hm⟩ := Mi.bnd hm
   refine l_lst r32 (fun i σ' H' => ∃ (s39 : Unit) (y40 : Option V), σ' = [some v0, some (.int d1), y40, none, none] ∧ Chg ([] : List Addr) H0 H' ∧ (yLst (yTup (sCons yInt (sOne yInt)))).rep K H' F0 v0 d0 ∧ (yLst yInt).rep K H' [p30] (.ref p30) (Mi.sortI s4) ∧ Mi.forR (Mi.m_busy_hour_b2 d0 d1) s39 (List.drop i (Mi.sortI s4)) = some e38) ⟨(), none, rfl, c0, r0, r32, he38⟩ (fun i σ' H' hp => by obtain ⟨s39, y40, rfl, c0, r0, r32, _⟩ := hp; exact r32) (fun i43 x42 u44 σ' H' hx41 r45 hp => ?_) (fun σ' H' hp => ?_)
   ·
     obtain ⟨s39, y40, rfl, c0, r0, r32, hle38⟩ := hp
     obtain ⟨o46, hbe38, hore38⟩ := Mi.forR_go hle38 hx41
     unfold Mi.m_busy_hour_b2 at hbe38
     obtain ⟨_, rfl⟩ := r45
     refine g_name (σ' := [some v0, some (.int d1), some (.int x42), none, none]) rfl ?_
     refine q_ifS ?_
     refine w_test ?_
     refine w_op ?_
     refine w_cb ?_
     refine w_cons ?_
     refine w_lc ?_
     refine w_iList ?_
     refine c_val (val_var rfl) ?_
     obtain ⟨e47, he47, hbe38⟩ := Mi.bnd hbe38
     refine kc_lst (K := K) (τ := yInt) r0 (fun D49 i H' => ∃ (s48 : (List Int)), Chg ([] : List Addr) H0 H' ∧ (yLst (yTup (sCons yInt (sOne yInt)))).rep K H' F0 v0 d0 ∧ (yLst yInt).rep K H' [p30] (.ref p30) (Mi.sortI s4) ∧ (yLst yInt).rep K H' [D49] (.ref D49) s48 ∧ Dj F0 [D49] ∧ Dj [p30] [D49] ∧ (∀ a ∈ [D49], H0 a = none) ∧ Mi.forN (Mi.m_busy_hour_b3 x42) s48 (List.drop i d0) = some e47) (fun D49 H57 np56 c55 r50 => ⟨([] : (List Int)), c0.trans c55.none, (Ty.ex r0 c55), (Ty.ex r32 c55), r50, Ty.nin r0 np56, Ty.nin r32 np56, one_fresh (c0.dom D49 np56), he47⟩) (fun D49 i H' hp => by obtain ⟨s48, c0, r0, r32, r50, d51, d52, n54, _⟩ := hp; exact r0) (fun D49 i60 x59 u62 H61 hx58 r63 hp => ?_) (fun D49 H' np56 hp => ?_)
     ·
       obtain ⟨s48, c0, r0, r32, r50, d51, d52, n54, hle47⟩ := hp
       obtain ⟨_, hbe47, hle47⟩ := Mi.forN_go hle47 hx58
       unfold Mi.m_busy_hour_b3 at hbe47
       refine g_tup2 r63 fun u68 u69 r70 r71 => ?_
       obtain ⟨_, rfl⟩ := r70
       obtain ⟨_, rfl⟩ := r71
       refine ⟨rfl, ?_⟩
       refine st_eqT (σ' := [some v0, some (.int d1), some (.int x42), some (.int x59.1), some (.int x59.2)]) rfl ?_
       refine c_ans (ans_t (val_chainI (val_var rfl) (val_var rfl) (val_var rfl))) ?_
       refine c_if (fun hb => ?_) (fun hb => ?_)
       ·
         replace hbe47 := Mi.ifT hb hbe47
         refine c_val (val_var rfl) ?_
         obtain ⟨x72, hx72, hbe47⟩ := Mi.bnd hbe47
         refine e_app r50 yInt_i hx72 fun H74 c73 r50 => ?_
         have r0 := Ty.chg r0 c73 d51
         have r32 := Ty.chg r32 c73 d52
         have c0 := c0.join c73 (fun a h => .inr (n54 a h))
         obtain rfl := Option.some.inj hbe47
         exact ⟨x72, c0, r0, r32, r50, d51, d52, n54, hle47⟩
       ·
         replace hbe47 := Mi.ifF hb hbe47
         obtain rfl := Option.some.inj hbe47
         exact ⟨s48, c0, r0, r32, r50, d51, d52, n54, hle47⟩
     obtain ⟨s48, c0, r0, r32, r50, d51, d52, n54, hle47⟩ := hp
     obtain rfl := Mi.forN_end hle47
     refine w_nil ?_
     refine w_lenL r50 ?_
     refine c_val (val_var rfl) ?_
     refine w_eqI ?_
     refine ⟨_, rfl, ?_⟩
     refine c_if (fun hb => ?_) (fun hb => ?_)
     ·
       replace hbe38 := Mi.ifT hb hbe38
       refine q_ret ?_
       refine c_val (val_var rfl) ?_
       obtain rfl := Option.some.inj hbe38
       obtain rfl := Mi.or_inl hore38
       obtain rfl := Option.some.inj (Mi.orR_inl hm)
       exact hQ _ _ c0 (opt_i nn_int yInt_i) 
     replace hbe38 := Mi.ifF hb hbe38
     refine w_fall ?_
     refine w_nextJ ?_
     obtain rfl := Option.some.inj hbe38
     replace hore38 := Mi.or_inr hore38
     exact ⟨_, (some (.int x42)), rfl, c0, r0, r32, hore38⟩
   obtain ⟨s39, y40, rfl, c0, r0, r32, hle38⟩ := hp
   obtain rfl := Mi.forR_end hle38
   replace hm := Mi.orR_inr hm
   refine q_ret ?_
   refine c_val val_c ?_
   obtain rfl := Option.some.inj hm
   exact hQ _ _ c0 opt_n 
abbrev s_berths : Stmt := topS 3
abbrev N_berths : List Str := ["spans", "numbers", "done", "index", "taken", "number", "count", "other"]
theorem sc_berths : FnScope ["spans", "numbers", "done", "index", "taken", "number", "count", "other"] ["spans"] (defScope s_berths) := ⟨rfl, rfl, rfl, by decide +kernel, rfl, by decide +kernel, by decide +kernel⟩
def sp_berths (K : PySem.W.Frag) (Pt : Addr) : Sp := fun vs H Q _ => ∃ (v0 : V) (F0 : List Addr) (d0 : (List (Int × Int))) (r : (Int × (List Int) × (Option Int))), vs = [v0] ∧ (yLst (yTup (sCons yInt (sOne yInt)))).rep K H F0 v0 d0 ∧ (yTab Pt tqS).rep K H [Pt] (.ref Pt) () ∧ Dj [Pt] F0 ∧ Mi.m_berths d0 = some r ∧ ∀ v H' F, Chg ([Pt]) H H' → (yNd (yTup (sCons yInt (sCons (yLst yInt) (sOne (yOpt yInt)))))).rep K H' F v r → (∀ a ∈ F, H a = none) → (yTab Pt tqS).rep K H' [Pt] (.ref Pt) () → Q v H'
theorem ok_berths (B : Bi mg) (CN : Cs K mg) {Pt : Addr} (D : DfnT K mg "berths" s_berths Pt) (C_overlap : Cal P w K mg "overlap" ["one", "other"] 1 (sp_overlap K)) (C_busy_hour : Cal P w K mg "busy_hour" ["spans", "count"] 1 (sp_busy_hour K)) : Cal P w K mg "berths" ["spans"] 2 (sp_berths K Pt) := by
 obtain ⟨f, fd, F, g, ⟨cT, hcT, hCH⟩, hBM, gPt⟩ := D.ex
 refine ⟨f, fd, g, F.kp, bindsF F (fun _ _ _ _ _ _ us hl => match us, hl with | [_], _ => rfl), fun base => fun_okC F sc_berths (fun vs H Q E h => ?_) (fun cdv A outer s H0 vs Q E hcd hr h => ?_)⟩
 · obtain ⟨v0, F0, d0, r, rfl, r0, rT, ddT_0, hm, hQ⟩ := h; rfl
 ·
   obtain ⟨v0, F0, d0, r, rfl, r0, rT, ddT_0, hm, hQ⟩ := h
   refine ⟨_, pss_cons (ps_set (i := 1) sc_berths.nd rfl (.inr rfl) (pe_op op_rep (pe_lst (pa_cons pe_int pa_nil)) (pe_callB (cl_len (K := K)) (by rfl) B.len PySem.boot_len (pa_cons (pv 0) pa_nil))))
     (pss_cons (ps_set (i := 2) sc_berths.nd rfl (.inl rfl) (pe_lst pa_nil))
     (pss_cons (ps_for PassesOwn.never rfl (pi_list (pe_SL hr (by rfl) B.sorted (by rfl) B.range (by rfl) B.len (hcd.symm.trans hcT) hCH hBM gPt (i := 0) rfl (by rfl) rfl rfl rfl rfl rfl (by decide) (fun _ _ _ _ _ => rfl) (by decide) (by decide) (by decide))) (pg_name (i := 3) sc_berths.nd rfl (.inr rfl)) (pss_cons (ps_setSTI (i := 4) (own := [("other", 7)]) hr.units rfl sc_berths.nd rfl rfl (swS_true rfl rfl rfl (by decide +kernel)) (pi_list (pv 2)) (blkOk_by (own := [("other", 7)]) (N := N_berths) (sc := defScope s_berths) (by decide +kernel)) (fun _ _ _ _ _ => (pg_name (i := 7) sc_berths.nd rfl (.inl rfl))) (fun _ _ _ _ _ => (pts_one (pt_val (pe_cc C_overlap hr (pa_cons (pe_ix (ix_l (K := K)) (pv 0) (pv 3) (fun _ _ => rfl)) (pa_cons (pe_ix (ix_l (K := K)) (pv 0) (pv 7) (fun _ _ => rfl)) pa_nil)))))) (fun _ _ _ _ _ => (pe_ix (ix_l (K := K)) (pv 1) (pv 7) (fun _ _ => rfl))))
     (pss_cons (ps_set (i := 5) sc_berths.nd rfl (.inl rfl) pe_int)
     (pss_cons (ps_while PassesOwn.never (pt_cmpR (op_in_s (w := w)) (pv 5) (pv 4) (by rfl)) (pss_cons (ps_aug (i := 5) sc_berths.nd rfl (.inl rfl) pe_int ip_add)
     (pss_nil)))
     (pss_cons (ps_asg (pv 5) (pg_sub (pv 1) (pv 3) set_list))
     (pss_cons (ps_expr (pe_bm PySem.F.plainAttrs_list PySem.F.slot_list_append PySem.F.type_list_append mt_append (pv 2) (pa_cons (pv 3) pa_nil)))
     (pss_nil)))))))
     (pss_cons (ps_set (i := 6) sc_berths.nd rfl (.inl rfl) (pe_ifExp (pt_truK (K := K) (pv 2)) (pe_op op_add (pe_callB (cl_maxL (K := K) rfl) (by rfl) B.max (by decide +kernel) (pa_cons (pv 1) pa_nil)) pe_int) pe_int))
     (pss_cons (ps_ret (pe_tup (pa_cons (pv 6) (pa_cons (pv 1) (pa_cons (pe_cc C_busy_hour hr (pa_cons (pv 0) (pa_cons (pv 6) pa_nil))) pa_nil))))) pss_nil)))), ?_⟩
   have c0 : Chg ([Pt]) H0 H0 := Chg.refl H0
   unfold Mi.m_berths at hm
   refine q_asg ?_
   refine w_op ?_
   refine w_lst ?_
   refine w_args (va_cons val_c va_nil) ?_
   refine e_lst (K := K) (τ := yInt) (by exact Nat.le_of_ble_eq_true rfl) (.cons yInt_i .nil) fun p2 H6 np5 c3 r4 => ?_
   have d7 : Dj F0 [p2] := Ty.nin r0 np5
   have d8 : Dj [Pt] [p2] := Ty.nin rT np5
   have n9 : ∀ a ∈ [p2], H0 a = none := one_fresh (c0.dom p2 np5)
   have r0 := Ty.ex r0 c3
   have rT := Ty.ex rT c3
   have c0 := c0.trans c3.none
   refine c_val (val_lenL r0 (val_var rfl)) ?_
   obtain ⟨x10, hx10, hm⟩ := Mi.bnd hm
   refine w_rep r4 hx10 fun p11 H15 np14 c12 r13 => ?_
   have d16 : Dj F0 [p11] := Ty.nin r0 np14
   have d17 : Dj [p2] [p11] := Ty.nin r4 np14
   have d18 : Dj [Pt] [p11] := Ty.nin rT np14
   have n19 : ∀ a ∈ [p11], H0 a = none := one_fresh (c0.dom p11 np14)
   have r0 := Ty.ex r0 c12
   have r4 := Ty.ex r4 c12
   have rT := Ty.ex rT c12
   have c0 := c0.trans c12.none
   refine g_name (σ' := [some v0, some (.ref p11), none, none, none, none, none, none]) rfl ?_
   refine q_asg ?_
   refine w_lst ?_
   refine w_args va_nil ?_
   refine e_lst (K := K) (τ := yInt) (by exact Nat.le_of_ble_eq_true rfl) .nil fun p20 H24 np23 c21 r22 => ?_
   have d25 : Dj F0 [p20] := Ty.nin r0 np23
   have d26 : Dj [p11] [p20] := Ty.nin r13 np23
   have d27 : Dj [Pt] [p20] := Ty.nin rT np23
   have n28 : ∀ a ∈ [p20], H0 a = none := one_fresh (c0.dom p20 np23)
   have r0 := Ty.ex r0 c21
   have r13 := Ty.ex r13 c21
   have rT := Ty.ex rT c21
   have c0 := c0.trans c21.none
   refine g_name (σ' := [some v0, some (.ref p11), some (.ref p20), none, none, none, none, none]) rfl ?_
   refine q_for ?_
   refine w_iList ?_
   obtain ⟨z29, hz29, hm⟩ := Mi.bnd hm
   refine w_SLo r0 rfl rT hz29 fun p30 H34 np33 c31 rT2 r32 => ?_
   have d35 : Dj F0 [p30] := Ty.nin r0 np33
   have d36 : Dj [p11] [p30] := Ty.nin r13 np33
   have d37 : Dj [p20] [p30] := Ty.nin r22 np33
   have d38 : Dj [Pt] [p30] := Ty.nin rT np33
   have n39 : ∀ a ∈ [p30], H0 a = none := one_fresh (c0.dom p30 np33)
   have r0 := Ty.chg r0 c31 ddT_0.symm
   have r13 := Ty.chg r13 c31 d18.symm
   have r22 := Ty.chg r22 c31 d27.symm
   have c0 := c0.join c31 (fun a h => .inl (h))
   have rT := rT2
   obtain ⟨e40, he40, hm⟩ := Mi.bnd hm
   refine l_lst r32 (fun i σ' H' => ∃ (s41 : ((List Int) × (List Int))) (y42 : Option V) (y43 : Option V) (y44 : Option V), σ' = [some v0, some (.ref p11), some (.ref p20), y42, y43, y44, none, none] ∧ Chg ([Pt]) H0 H' ∧ (yLst (yTup (sCons yInt (sOne yInt)))).rep K H' F0 v0 d0 ∧ (yLst yInt).rep K H' [p11] (.ref p11) s41.1 ∧ (yLst yInt).rep K H' [p20] (.ref p20) s41.2 ∧ (yLst yInt).rep K H' [p30] (.ref p30) (Mi.sortIx (d0.map (fun s : Int × Int => s.1))) ∧ (yTab Pt tqS).rep K H' [Pt] (.ref Pt) () ∧ Mi.forN (Mi.m_berths_b1 d0) s41 (List.drop i (Mi.sortIx (d0.map (fun s : Int × Int => s.1)))) = some e40) ⟨(x10, ([] : (List Int))), none, none, none, rfl, c0, r0, r13, r22, r32, rT, he40⟩ (fun i σ' H' hp => by obtain ⟨s41, y42, y43, y44, rfl, c0, r0, r13, r22, r32, rT, _⟩ := hp; exact r32) (fun i47 x46 u48 σ' H' hx45 r49 hp => ?_) (fun σ' H' hp => ?_)
   ·
     obtain ⟨s41, y42, y43, y44, rfl, c0, r0, r13, r22, r32, rT, hle40⟩ := hp
     obtain ⟨_, hbe40, hle40⟩ := Mi.forN_go hle40 hx45
     unfold Mi.m_berths_b1 at hbe40
     obtain ⟨_, rfl⟩ := r49
     refine g_name (σ' := [some v0, some (.ref p11), some (.ref p20), some (.int x46), y43, y44, none, none]) rfl ?_
     refine q_asg ?_
     refine w_scI ?_
     refine w_iList ?_
     refine c_val (val_var rfl) ?_
     obtain ⟨e50, he50, hbe40⟩ := Mi.bnd hbe40
     refine kA_sq sq_lst r22 (fun D52 i H' => ∃ (s51 : (List Int)), Chg ([Pt]) H0 H' ∧ (yLst (yTup (sCons yInt (sOne yInt)))).rep K H' F0 v0 d0 ∧ (yLst yInt).rep K H' [p11] (.ref p11) s41.1 ∧ (yLst yInt).rep K H' [p20] (.ref p20) s41.2 ∧ (yLst yInt).rep K H' [p30] (.ref p30) (Mi.sortIx (d0.map (fun s : Int × Int => s.1))) ∧ (yTab Pt tqS).rep K H' [Pt] (.ref Pt) () ∧ (ySet w).rep K H' [D52] (.ref D52) s51 ∧ Dj F0 [D52] ∧ Dj [p11] [D52] ∧ Dj [p20] [D52] ∧ Dj [p30] [D52] ∧ Dj [Pt] [D52] ∧ (∀ a ∈ [D52], H0 a = none) ∧ Mi.forN (Mi.m_berths_b2 d0 s41 x46) s51 (List.drop i s41.2) = some e50) (fun D52 np61 => by obtain ⟨c60, r53⟩ := setI_nil (K := K) (w := w) np61; exact ⟨([] : (List Int)), c0.trans c60.none, (Ty.ex r0 c60), (Ty.ex r13 c60), (Ty.ex r22 c60), (Ty.ex r32 c60), (Ty.ex rT c60), r53, Ty.nin r0 np61, Ty.nin r13 np61, Ty.nin r22 np61, Ty.nin r32 np61, Ty.nin rT np61, one_fresh (c0.dom D52 np61), he50⟩) (fun D52 i H' hp => by obtain ⟨s51, c0, r0, r13, r22, r32, rT, r53, d54, d55, d56, d57, d58, n59, _⟩ := hp; exact r22) (fun D52 i64 x63 u66 H65 hx62 r67 hp => ?_) (fun D52 H' np61 hp => ?_)
     ·
       obtain ⟨s51, c0, r0, r13, r22, r32, rT, r53, d54, d55, d56, d57, d58, n59, hle50⟩ := hp
       obtain ⟨_, hbe50, hle50⟩ := Mi.forN_go hle50 hx62
       unfold Mi.m_berths_b2 at hbe50
       obtain ⟨_, rfl⟩ := r67
       refine g_name (σ' := [some v0, some (.ref p11), some (.ref p20), some (.int x46), y43, y44, none, some (.int x63)]) rfl ?_
       refine ⟨rfl, ?_⟩
       refine w_B ?_
       refine w_call ?_
       obtain ⟨x70, hx70, hbe50⟩ := Mi.bnd hbe50
       obtain ⟨u71, r72, ku73⟩ := itm_L r0 hx70
       obtain ⟨x74, hx74, hbe50⟩ := Mi.bnd hbe50
       obtain ⟨u75, r76, ku77⟩ := itm_L r0 hx74
       refine w_args (va_cons (ku73 (val_var rfl) (val_var rfl)) (va_cons (ku77 (val_var rfl) (val_var rfl)) va_nil)) ?_
       obtain ⟨q78, hq78, hbe50⟩ := Mi.bnd hbe50
       refine ⟨u71, x70, u75, x74, q78, rfl, r72, r76, hq78, fun H80 c79  => ?_⟩
       have r0 := Ty.ex r0 c79
       have r13 := Ty.ex r13 c79
       have r22 := Ty.ex r22 c79
       have r32 := Ty.ex r32 c79
       have r53 := Ty.ex r53 c79
       have rT := Ty.ex rT c79
       have c0 := c0.trans c79.none
       refine ⟨_, rfl, ?_⟩
       refine c_if (fun hb => ?_) (fun hb => ?_)
       ·
         replace hbe50 := Mi.ifT hb hbe50
         obtain ⟨x81, hx81, hbe50⟩ := Mi.bnd hbe50
         refine c_val (itm_LI r13 hx81 (val_var rfl) (val_var rfl)) ?_
         obtain ⟨x82, hx82, hbe50⟩ := Mi.bnd hbe50
         refine e_addI r53 hx82 fun H84 c83 r53 => ?_
         have r0 := Ty.chg r0 c83 d54
         have r13 := Ty.chg r13 c83 d55
         have r22 := Ty.chg r22 c83 d56
         have r32 := Ty.chg r32 c83 d57
         have rT := Ty.chg rT c83 d58
         have c0 := c0.join c83 (fun a h => .inr (n59 a h))
         obtain rfl := Option.some.inj hbe50
         exact ⟨x82, c0, r0, r13, r22, r32, rT, r53, d54, d55, d56, d57, d58, n59, hle50⟩
       ·
         replace hbe50 := Mi.ifF hb hbe50
         obtain rfl := Option.some.inj hbe50
         exact ⟨s51, c0, r0, r13, r22, r32, rT, r53, d54, d55, d56, d57, d58, n59, hle50⟩
     obtain ⟨s51, c0, r0, r13, r22, r32, rT, r53, d54, d55, d56, d57, d58, n59, hle50⟩ := hp
     obtain rfl := Mi.forN_end hle50
     refine g_name (σ' := [some v0, some (.ref p11), some (.ref p20), some (.int x46), some (.ref D52), y44, none, none]) rfl ?_
     obtain ⟨number85, hnumber85, hbe40⟩ := Mi.letE hbe40
     refine q_setE val_c (congrArg V.int hnumber85) (σ' := [some v0, some (.ref p11), some (.ref p20), some (.int x46), some (.ref D52), some (.int number85), none, none]) rfl ?_
     refine q_while ?_
     obtain ⟨e86, he86, hbe40⟩ := Mi.bnd hbe40
     refine l_while (fun m σ' H' => ∃ (s87 : Int), σ' = [some v0, some (.ref p11), some (.ref p20), some (.int x46), some (.ref D52), some (.int s87), none, none] ∧ Chg ([Pt]) H0 H' ∧ (yLst (yTup (sCons yInt (sOne yInt)))).rep K H' F0 v0 d0 ∧ (yLst yInt).rep K H' [p11] (.ref p11) s41.1 ∧ (yLst yInt).rep K H' [p20] (.ref p20) s41.2 ∧ (ySet w).rep K H' [D52] (.ref D52) s51 ∧ (yLst yInt).rep K H' [p30] (.ref p30) (Mi.sortIx (d0.map (fun s : Int × Int => s.1))) ∧ (yTab Pt tqS).rep K H' [Pt] (.ref Pt) () ∧ Mi.whileN (Mi.m_berths_c3 s51) (Mi.m_berths_b3) m s87 = some e86) 1000 ⟨number85, rfl, c0, r0, r13, r22, r53, r32, rT, he86⟩ (fun m88 σ' H' hp => ?_)
     obtain ⟨s87, rfl, c0, r0, r13, r22, r53, r32, rT, hle86⟩ := hp
     obtain ⟨n89, b90, rfl, hce86, hle86⟩ := Mi.whileN_go hle86
     unfold Mi.m_berths_c3 at hce86
     obtain rfl := Option.some.inj hce86
     refine c_ans (ans_t (val_inS r53 (val_var rfl) (val_var rfl))) ?_
     refine c_if (fun hb => ?_) (fun hb => ?_)
     ·
       replace hle86 := Mi.ifT hb hle86
       obtain ⟨_, hbe86, hle86⟩ := Mi.bnd hle86
       unfold Mi.m_berths_b3 at hbe86
       refine ⟨fun σ' H' => ∃ (s87 : Int), σ' = [some v0, some (.ref p11), some (.ref p20), some (.int x46), some (.ref D52), some (.int s87), none, none] ∧ Chg ([Pt]) H0 H' ∧ (yLst (yTup (sCons yInt (sOne yInt)))).rep K H' F0 v0 d0 ∧ (yLst yInt).rep K H' [p11] (.ref p11) s41.1 ∧ (yLst yInt).rep K H' [p20] (.ref p20) s41.2 ∧ (ySet w).rep K H' [D52] (.ref D52) s51 ∧ (yLst yInt).rep K H' [p30] (.ref p30) (Mi.sortIx (d0.map (fun s : Int × Int => s.1))) ∧ (yTab Pt tqS).rep K H' [Pt] (.ref Pt) () ∧ Mi.whileN (Mi.m_berths_c3 s51) (Mi.m_berths_b3) n89 s87 = some e86, fun σ2 H2 hq => ⟨n89, Nat.lt_succ_self _, hq⟩, ?_⟩
       obtain ⟨number91, hnumber91, hbe86⟩ := Mi.letE hbe86
       refine q_aug rfl val_c hnumber91 (σ' := [some v0, some (.ref p11), some (.ref p20), some (.int x46), some (.ref D52), some (.int number91), none, none]) rfl ?_
       refine w_nextJ ?_
       obtain rfl := Option.some.inj hbe86
       exact ⟨_, rfl, c0, r0, r13, r22, r53, r32, rT, hle86⟩
     replace hle86 := Mi.ifF hb hle86
     obtain rfl := Option.some.inj hle86
     refine q_asg ?_
     refine c_val (val_var rfl) ?_
     refine w_gsub ?_
     refine c_val (val_var rfl) ?_
     refine c_val (val_var rfl) ?_
     obtain ⟨x92, hx92, hbe40⟩ := Mi.bnd hbe40
     refine m_set r13 yInt_i hx92 fun H94 c93 r13 => ?_
     have r0 := Ty.chg r0 c93 d16
     have r22 := Ty.chg r22 c93 d26.symm
     have r53 := Ty.chg r53 c93 d55.symm
     have r32 := Ty.chg r32 c93 d36.symm
     have rT := Ty.chg rT c93 d18
     have c0 := c0.join c93 (fun a h => .inr (n19 a h))
     refine q_drop (w_bm (c_val (val_var rfl) ⟨tyv_lst r22, ?_⟩))
     refine w_args (va_cons (val_var rfl) va_nil) ?_
     obtain ⟨x95, hx95, hbe40⟩ := Mi.bnd hbe40
     refine m_app r22 yInt_i hx95 fun H97 c96 r22 => ?_
     have r0 := Ty.chg r0 c96 d25
     have r13 := Ty.chg r13 c96 d26
     have r53 := Ty.chg r53 c96 d56.symm
     have r32 := Ty.chg r32 c96 d37.symm
     have rT := Ty.chg rT c96 d27
     have c0 := c0.join c96 (fun a h => .inr (n28 a h))
     refine w_nextJ ?_
     obtain rfl := Option.some.inj hbe40
     exact ⟨_, (some (.int x46)), (some (.ref D52)), (some (.int s87)), rfl, c0, r0, r13, r22, r32, rT, hle40⟩
   obtain ⟨s41, y42, y43, y44, rfl, c0, r0, r13, r22, r32, rT, hle40⟩ := hp
   obtain rfl := Mi.forN_end hle40
   refine q_asg ?_
   obtain ⟨x98, hx98, hm⟩ := Mi.bnd hm
   refine j_if (fun z H' => z = (.int x98) ∧ Chg ([Pt]) H0 H' ∧ (yLst (yTup (sCons yInt (sOne yInt)))).rep K H' F0 v0 d0 ∧ (yLst yInt).rep K H' [p11] (.ref p11) s41.1 ∧ (yLst yInt).rep K H' [p20] (.ref p20) s41.2 ∧ (yTab Pt tqS).rep K H' [Pt] (.ref Pt) ()) (fun Q' kq => ?_) (fun u99 H' hj => ?_)
   ·
     refine w_ife ?_
     refine c_ans (ans_truL r22 (val_var rfl)) ?_
     refine c_if (fun hb => ?_) (fun hb => ?_)
     ·
       replace hx98 := Mi.ifT hb hx98
       refine w_op ?_
       refine w_cb ?_
       refine w_args (va_cons (val_var rfl) va_nil) ?_
       obtain ⟨x103, hx103, hx98⟩ := Mi.bnd hx98
       refine w_maxL r13 hx103 ?_
       refine c_val val_c ?_
       refine w_I0 ?_
       obtain rfl := Option.some.inj hx98
       exact kq _ _ ⟨rfl, c0, r0, r13, r22, rT⟩
     ·
       replace hx98 := Mi.ifF hb hx98
       refine c_val val_c ?_
       obtain rfl := Option.some.inj hx98
       exact kq _ _ ⟨rfl, c0, r0, r13, r22, rT⟩
   obtain ⟨rfl, c0, r0, r13, r22, rT⟩ := hj
   refine g_name (σ' := [some v0, some (.ref p11), some (.ref p20), y42, y43, y44, some (.int x98), none]) rfl ?_
   refine q_ret ?_
   refine w_tup ?_
   refine w_cons ?_
   refine c_val (val_var rfl) ?_
   refine w_cons ?_
   refine c_val (val_var rfl) ?_
   refine w_cons ?_
   refine w_call ?_
   refine w_args (va_cons (val_var rfl) (va_cons (val_var rfl) va_nil)) ?_
   obtain ⟨q104, hq104, hm⟩ := Mi.bnd hm
   refine ⟨v0, F0, d0, x98, q104, rfl, r0, hq104, fun v107 H106 c105 r108  => ?_⟩
   have r0 := Ty.ex r0 c105
   have r13 := Ty.ex r13 c105
   have r22 := Ty.ex r22 c105
   have rT := Ty.ex rT c105
   have c0 := c0.trans c105.none
   refine w_nil ?_
   refine e_tup (K := K) (ty := (sCons yInt (sCons (yLst yInt) (sOne (yOpt yInt))))) (F := ([] ++ ([p11] ++ []))) (d := (x98, s41.1, q104)) (by exact Nat.le_of_ble_eq_true rfl) ⟨_, _, _, _, rfl, rfl, yInt_i, ⟨_, _, _, _, rfl, rfl, r13, ⟨_, rfl, r108⟩⟩⟩ fun p109 H113 np112 c110 r111  => ?_
   have r0 := Ty.ex r0 c110
   have r13 := Ty.ex r13 c110
   have r22 := Ty.ex r22 c110
   have r108 := Ty.fz r108 c110
   have rT := Ty.ex rT c110
   have c0 := c0.trans c110.none
   have d114 : Dj ([] ++ ([p11] ++ [])) F0 := (Dj.app (Dj.nil) ((Dj.app (d16.symm) (Dj.nil))))
   have d115 : Dj ([] ++ ([p11] ++ [])) [p20] := (Dj.app (Dj.nil) ((Dj.app (d26) (Dj.nil))))
   have d116 : Dj ([] ++ ([p11] ++ [])) [Pt] := (Dj.app (Dj.nil) ((Dj.app (d18.symm) (Dj.nil))))
   obtain rfl := Option.some.inj hm
   exact hQ _ _ _ c0 ⟨r111, (nd_app List.nodup_nil (nd_app (lst_nd r13) List.nodup_nil (Dj.nilR)) Dj.nil)⟩ (app_fresh nil_fresh (app_fresh n19 nil_fresh)) rT
abbrev s_l_hand : Stmt := topS 5
theorem sc_l_hand : FnScope ["_law_script", "_law_k", "_law_cell", "_law_rest"] ["_law_script", "_law_k"] (defScope s_l_hand) := ⟨rfl, rfl, rfl, by decide +kernel, rfl, by decide +kernel, by decide +kernel⟩
def sp_l_hand (K : PySem.W.Frag) : Sp := fun vs H Q _ => ∃ (v0 : V) (d0 : (List Int)) (d1 : Int) (r : (List Int)), vs = [v0, (.int d1)] ∧ yScr.rep K H [] v0 d0 ∧ Mi.m_l_hand d0 d1 = some r ∧ ∀ v H' F, Chg ([]) H H' → (yLst yInt).rep K H' F v r → (∀ a ∈ F, H a = none) → Q v H'
theorem ok_l_hand (B : Bi mg) (CN : Cs K mg) (D : Dfn K mg "_law_hand" s_l_hand)  : Cal P w K mg "_law_hand" ["_law_script", "_law_k"] 1 (sp_l_hand K) := by
 obtain ⟨f, fd, F, g⟩ := D.ex
 refine ⟨f, fd, g, F.kp, bindsF F (fun _ _ _ _ _ _ us hl => match us, hl with | [_, _], _ => rfl), fun base => F.ok sc_l_hand (fun vs H Q E h => ?_) (fun cdv A outer s H0 vs Q E hr h => ?_)⟩
 · obtain ⟨v0, d0, d1, r, rfl, r0, hm, hQ⟩ := h; rfl
 ·
   obtain ⟨v0, d0, d1, r, rfl, r0, hm, hQ⟩ := h
   refine ⟨_, pss_cons (ps_set (i := 2) sc_l_hand.nd rfl (.inl rfl) pe_int)
     (pss_cons (ps_if (pt_cmpR op_lt (pv 1) (pe_callB (cl_len (K := K)) (by rfl) B.len PySem.boot_len (pa_cons (pv 0) pa_nil)) (nomark _)) (pss_cons (ps_set (i := 2) sc_l_hand.nd rfl (.inl rfl) (pe_ix (ix_l (K := K)) (pv 0) (pv 1) (fun _ _ => rfl)))
     (pss_nil)) (pss_nil))
     (pss_cons (ps_if (pt_cmpR op_lt (pv 2) pe_int (nomark _)) (pss_cons (ps_set (i := 2) sc_l_hand.nd rfl (.inl rfl) (pe_op op_sub pe_int (pe_op op_mul pe_int (pv 2))))
     (pss_nil)) (pss_nil))
     (pss_cons (ps_set (i := 3) sc_l_hand.nd rfl (.inl rfl) pe_int)
     (pss_cons (ps_if (pt_cmpR op_ge (pv 2) (pe_op op_pow pe_int pe_int) (nomark _)) (pss_cons (ps_set (i := 3) sc_l_hand.nd rfl (.inl rfl) (pv 2))
     (pss_nil)) (pss_nil))
     (pss_cons (ps_ret (pe_lst (pa_cons (pv 3) (pa_cons (pe_op op_mod (pe_callTy cl_int (by rfl) B.int (by decide +kernel) (pa_cons (pe_op op_add (pe_op op_add (pv 2) (pe_op op_mul pe_int (pv 1))) pe_int) pa_nil)) pe_int) (pa_cons pe_int pa_nil))))) pss_nil))))), ?_⟩
   have c0 : Chg ([] : List Addr) H0 H0 := Chg.refl H0
   unfold Mi.m_l_hand at hm
   obtain ⟨cell3, hcell3, hm⟩ := Mi.letE hm
   refine q_setE val_c (congrArg V.int hcell3) (σ' := [some v0, some (.int d1), some (.int cell3), none]) rfl ?_
   obtain ⟨s4, hs4, hm⟩ := Mi.bnd hm
   refine s_join (R := fun σ' H' => σ' = [some v0, some (.int d1), some (.int s4), none] ∧ Chg ([] : List Addr) H0 H' ∧ yScr.rep K H' [] v0 d0) (fun nx kx => ?_) (fun σ' H' hj => ?_)
   ·
     refine s_if (ans_t (val_lt (val_var rfl) (val_lenS r0 (val_var rfl)))) (fun hb => ?_) (fun hb => ?_)
     ·
       replace hs4 := Mi.ifT hb hs4
       obtain ⟨x5, hx5, hs4⟩ := Mi.bnd hs4
       obtain ⟨cell6, hcell6, hs4⟩ := Mi.letE hs4
       refine q_setE (itm_S r0 hx5 (val_var rfl) (val_var rfl)) (congrArg V.int hcell6) (σ' := [some v0, some (.int d1), some (.int cell6), none]) rfl ?_
       refine w_nextJ ?_
       obtain rfl := Option.some.inj hs4
       exact kx _ _ ⟨rfl, c0, r0⟩
     ·
       replace hs4 := Mi.ifF hb hs4
       refine w_nextJ ?_
       obtain rfl := Option.some.inj hs4
       exact kx _ _ ⟨rfl, c0, r0⟩
   obtain ⟨rfl, c0, r0⟩ := hj
   obtain ⟨s7, hs7, hm⟩ := Mi.bnd hm
   refine s_join (R := fun σ' H' => σ' = [some v0, some (.int d1), some (.int s7), none] ∧ Chg ([] : List Addr) H0 H' ∧ yScr.rep K H' [] v0 d0) (fun nx kx => ?_) (fun σ' H' hj => ?_)
   ·
     refine s_if (ans_t (val_lt (val_var rfl) val_c)) (fun hb => ?_) (fun hb => ?_)
     ·
       replace hs7 := Mi.ifT hb hs7
       obtain ⟨cell8, hcell8, hs7⟩ := Mi.letE hs7
       refine q_setE (val_sub val_c (val_mulL val_c (val_var rfl) ⟨by decide, by decide⟩)) (congrArg V.int hcell8) (σ' := [some v0, some (.int d1), some (.int cell8), none]) rfl ?_
       refine w_nextJ ?_
       obtain rfl := Option.some.inj hs7
       exact kx _ _ ⟨rfl, c0, r0⟩
     ·
       replace hs7 := Mi.ifF hb hs7
       refine w_nextJ ?_
       obtain rfl := Option.some.inj hs7
       exact kx _ _ ⟨rfl, c0, r0⟩
   obtain ⟨rfl, c0, r0⟩ := hj
   obtain ⟨rest9, hrest9, hm⟩ := Mi.letE hm
   refine q_setE val_c (congrArg V.int hrest9) (σ' := [some v0, some (.int d1), some (.int s7), some (.int rest9)]) rfl ?_
   obtain ⟨s10, hs10, hm⟩ := Mi.bnd hm
   refine s_join (R := fun σ' H' => σ' = [some v0, some (.int d1), some (.int s7), some (.int s10)] ∧ Chg ([] : List Addr) H0 H' ∧ yScr.rep K H' [] v0 d0) (fun nx kx => ?_) (fun σ' H' hj => ?_)
   ·
     refine s_if (ans_t (val_ge (val_var rfl) (val_pow (n := 18) val_c val_c rfl (by decide) (by decide)))) (fun hb => ?_) (fun hb => ?_)
     ·
       replace hs10 := Mi.ifT hb hs10
       obtain ⟨rest11, hrest11, hs10⟩ := Mi.letE hs10
       refine q_setE (val_var rfl) (congrArg V.int hrest11) (σ' := [some v0, some (.int d1), some (.int s7), some (.int rest11)]) rfl ?_
       refine w_nextJ ?_
       obtain rfl := Option.some.inj hs10
       exact kx _ _ ⟨rfl, c0, r0⟩
     ·
       replace hs10 := Mi.ifF hb hs10
       refine w_nextJ ?_
       obtain rfl := Option.some.inj hs10
       exact kx _ _ ⟨rfl, c0, r0⟩
   obtain ⟨rfl, c0, r0⟩ := hj
   refine q_ret ?_
   refine w_lst ?_
   refine w_args (va_cons (val_var rfl) (va_cons (val_modc (val_int (val_add (val_add (val_var rfl) (val_mulL val_c (val_var rfl) ⟨by decide, by decide⟩)) val_c)) val_c (by decide)) (va_cons val_c va_nil))) ?_
   refine e_lst (K := K) (τ := yInt) (by exact Nat.le_of_ble_eq_true rfl) (.cons yInt_i (.cons yInt_i (.cons yInt_i .nil))) fun p12 H16 np15 c13 r14 => ?_
   have n17 : ∀ a ∈ [p12], H0 a = none := one_fresh (c0.dom p12 np15)
   have r0 := Ty.fz r0 c13
   have c0 := c0.trans c13.none
   obtain rfl := Option.some.inj hm
   exact hQ _ _ _ c0 r14 n17 
abbrev s_l_pick : Stmt := topS 6
theorem sc_l_pick : FnScope ["_law_hand_here", "_law_size", "_law_digit", "_law_mixed"] ["_law_hand_here", "_law_size"] (defScope s_l_pick) := ⟨rfl, rfl, rfl, by decide +kernel, rfl, by decide +kernel, by decide +kernel⟩
def sp_l_pick (K : PySem.W.Frag) : Sp := fun vs H Q _ => ∃ (v0 : V) (F0 : List Addr) (d0 : (List Int)) (d1 : Int) (r : (Int × (List Int))), vs = [v0, (.int d1)] ∧ (yLst yInt).rep K H F0 v0 d0 ∧ Mi.m_l_pick d0 d1 = some r ∧ ∀ H', Chg (F0) H H' → (yLst yInt).rep K H' F0 v0 r.2 → Q (.int r.1) H'
theorem ok_l_pick (B : Bi mg) (CN : Cs K mg) (D : Dfn K mg "_law_pick" s_l_pick)  : Cal P w K mg "_law_pick" ["_law_hand_here", "_law_size"] 1 (sp_l_pick K) := by
 obtain ⟨f, fd, F, g⟩ := D.ex
 refine ⟨f, fd, g, F.kp, bindsF F (fun _ _ _ _ _ _ us hl => match us, hl with | [_, _], _ => rfl), fun base => F.ok sc_l_pick (fun vs H Q E h => ?_) (fun cdv A outer s H0 vs Q E hr h => ?_)⟩
 · obtain ⟨v0, F0, d0, d1, r, rfl, r0, hm, hQ⟩ := h; rfl
 ·
   obtain ⟨v0, F0, d0, d1, r, rfl, r0, hm, hQ⟩ := h
   refine ⟨_, pss_cons (ps_if (pt_cmpR op_lt (pv 1) pe_int (nomark _)) (pss_cons (ps_ret pe_int) pss_nil) (pss_nil))
     (pss_cons (ps_if (pt_cmpR op_gt (pe_ix (ix_l (K := K)) (pv 0) pe_int (fun _ _ => rfl)) pe_int (nomark _)) (pss_cons (ps_set (i := 2) sc_l_pick.nd rfl (.inl rfl) (pe_op op_mod (pe_callTy cl_int (by rfl) B.int (by decide +kernel) (pa_cons (pe_ix (ix_l (K := K)) (pv 0) pe_int (fun _ _ => rfl)) pa_nil)) (pv 1)))
     (pss_cons (ps_asg (pe_op op_fdivW (pe_ix (ix_l (K := K)) (pv 0) pe_int (fun _ _ => rfl)) (pv 1)) (pg_sub (pv 0) pe_int set_list))
     (pss_cons (ps_ret (pv 2)) pss_nil))) (pss_nil))
     (pss_cons (ps_asg (pe_op op_add (pe_ix (ix_l (K := K)) (pv 0) pe_int (fun _ _ => rfl)) pe_int) (pg_sub (pv 0) pe_int set_list))
     (pss_cons (ps_set (i := 3) sc_l_pick.nd rfl (.inl rfl) (pe_op op_mod (pe_callTy cl_int (by rfl) B.int (by decide +kernel) (pa_cons (pe_op op_add (pe_op op_add (pe_ix (ix_l (K := K)) (pv 0) pe_int (fun _ _ => rfl)) (pe_op op_mul pe_int (pe_ix (ix_l (K := K)) (pv 0) pe_int (fun _ _ => rfl)))) pe_int) pa_nil)) pe_int))
     (pss_cons (ps_set (i := 3) sc_l_pick.nd rfl (.inl rfl) (pe_op op_mod (pe_callTy cl_int (by rfl) B.int (by decide +kernel) (pa_cons (pe_op op_mul (pv 3) (pe_op op_add (pv 3) pe_int)) pa_nil)) pe_int))
     (pss_cons (ps_set (i := 3) sc_l_pick.nd rfl (.inl rfl) (pe_op op_mod (pe_callTy cl_int (by rfl) B.int (by decide +kernel) (pa_cons (pe_op op_add (pe_op op_mul (pv 3) (pe_op op_add (pv 3) pe_int)) (pe_op op_mul pe_int (pe_ix (ix_l (K := K)) (pv 0) pe_int (fun _ _ => rfl)))) pa_nil)) pe_int))
     (pss_cons (ps_ret (pe_op op_mod (pe_callTy cl_int (by rfl) B.int (by decide +kernel) (pa_cons (pe_op op_fdiv (pv 3) pe_int) pa_nil)) (pv 1))) pss_nil)))))), ?_⟩
   have c0 : Chg (F0) H0 H0 := Chg.refl H0
   unfold Mi.m_l_pick at hm
   refine q_if (ans_t (val_lt (val_var rfl) val_c)) (fun hb => ?_) (fun hb => ?_)
   ·
     replace hm := Mi.ifT hb hm
     refine q_ret ?_
     refine c_val val_c ?_
     obtain rfl := Option.some.inj hm
     exact hQ _ c0 r0
   replace hm := Mi.ifF hb hm
   refine w_fall ?_
   obtain ⟨x3, hx3, hm⟩ := Mi.bnd hm
   refine q_if (ans_t (val_gt (itm_LI r0 hx3 (val_var rfl) val_c) val_c)) (fun hb => ?_) (fun hb => ?_)
   ·
     replace hm := Mi.ifT hb hm
     obtain ⟨x4, hx4, hm⟩ := Mi.bnd hm
     obtain ⟨x5, hx5, hm⟩ := Mi.bnd hm
     obtain ⟨digit6, hdigit6, hm⟩ := Mi.letE hm
     refine q_setE (val_mod (val_int (itm_LI r0 hx4 (val_var rfl) val_c)) (val_var rfl) hx5) (congrArg V.int hdigit6) (σ' := [some v0, some (.int d1), some (.int digit6), none]) rfl ?_
     refine q_asg ?_
     obtain ⟨x7, hx7, hm⟩ := Mi.bnd hm
     obtain ⟨x8, hx8, hm⟩ := Mi.bnd hm
     refine c_val (val_fdiv (itm_LI r0 hx7 (val_var rfl) val_c) (val_var rfl) hx8) ?_
     refine w_gsub ?_
     refine c_val (val_var rfl) ?_
     refine c_val val_c ?_
     obtain ⟨x9, hx9, hm⟩ := Mi.bnd hm
     refine m_set r0 yInt_i hx9 fun H11 c10 r0 => ?_
     have c0 := c0.join c10 (fun a h => .inl (h))
     refine q_ret ?_
     refine c_val (val_var rfl) ?_
     obtain rfl := Option.some.inj hm
     exact hQ _ c0 r0
   replace hm := Mi.ifF hb hm
   refine w_fall ?_
   refine q_asg ?_
   obtain ⟨x12, hx12, hm⟩ := Mi.bnd hm
   refine c_val (val_add (itm_LI r0 hx12 (val_var rfl) val_c) val_c) ?_
   refine w_gsub ?_
   refine c_val (val_var rfl) ?_
   refine c_val val_c ?_
   obtain ⟨x13, hx13, hm⟩ := Mi.bnd hm
   refine m_set r0 yInt_i hx13 fun H15 c14 r0 => ?_
   have c0 := c0.join c14 (fun a h => .inl (h))
   obtain ⟨x16, hx16, hm⟩ := Mi.bnd hm
   obtain ⟨x17, hx17, hm⟩ := Mi.bnd hm
   obtain ⟨mixed18, hmixed18, hm⟩ := Mi.letE hm
   refine q_setE (val_modc (val_int (val_add (val_add (itm_LI r0 hx16 (val_var rfl) val_c) (val_mulL val_c (itm_LI r0 hx17 (val_var rfl) val_c) ⟨by decide, by decide⟩)) val_c)) val_c (by decide)) (congrArg V.int hmixed18) (σ' := [some v0, some (.int d1), none, some (.int mixed18)]) rfl ?_
   obtain ⟨x19, hx19, hm⟩ := Mi.bnd hm
   obtain ⟨mixed20, hmixed20, hm⟩ := Mi.letE hm
   refine q_setE (val_modc (val_int (val_mul (val_var rfl) (val_add (val_var rfl) val_c) hx19)) val_c (by decide)) (congrArg V.int hmixed20) (σ' := [some v0, some (.int d1), none, some (.int mixed20)]) rfl ?_
   obtain ⟨x21, hx21, hm⟩ := Mi.bnd hm
   obtain ⟨x22, hx22, hm⟩ := Mi.bnd hm
   obtain ⟨mixed23, hmixed23, hm⟩ := Mi.letE hm
   refine q_setE (val_modc (val_int (val_add (val_mul (val_var rfl) (val_add (val_var rfl) val_c) hx21) (val_mulL val_c (itm_LI r0 hx22 (val_var rfl) val_c) ⟨by decide, by decide⟩))) val_c (by decide)) (congrArg V.int hmixed23) (σ' := [some v0, some (.int d1), none, some (.int mixed23)]) rfl ?_
   refine q_ret ?_
   obtain ⟨x24, hx24, hm⟩ := Mi.bnd hm
   refine c_val (val_mod (val_int (val_divc (val_var rfl) val_c ⟨by decide, by decide⟩)) (val_var rfl) hx24) ?_
   obtain rfl := Option.some.inj hm
   exact hQ _ c0 r0
abbrev s_l_int : Stmt := topS 7
theorem sc_l_int : FnScope ["_law_x"] ["_law_x"] (defScope s_l_int) := ⟨rfl, rfl, rfl, by decide +kernel, rfl, by decide +kernel, by decide +kernel⟩
def sp_l_int (K : PySem.W.Frag) : Sp := fun vs H Q _ => (∃ (d0 : Int) (r : Bool), vs = [(.int d0)] ∧ Mi.m_l_int_0 d0 = some r ∧ ∀ H', Chg ([]) H H' → Q (.bl r) H') ∨ (∃ (v0 : V) (d0 : (Option Int)) (r : Bool), vs = [v0] ∧ (yOpt yInt).rep K H [] v0 d0 ∧ Mi.m_l_int_1 d0 = some r ∧ ∀ H', Chg ([]) H H' → Q (.bl r) H')
theorem ok_l_int (B : Bi mg) (CN : Cs K mg) (D : Dfn K mg "_law_int" s_l_int)  : Cal P w K mg "_law_int" ["_law_x"] 1 (sp_l_int K) := by
 obtain ⟨f, fd, F, g⟩ := D.ex
 refine ⟨f, fd, g, F.kp, bindsF F (fun _ _ _ _ _ _ us hl => match us, hl with | [_], _ => rfl), fun base => F.ok sc_l_int (fun vs H Q E h => ?_) (fun cdv A outer s H0 vs Q E hr h => ?_)⟩
 · rcases h with ⟨d0, r, rfl, hm, hQ⟩ | ⟨v0, d0, r, rfl, r0, hm, hQ⟩
   all_goals first | rfl | (subst hvs; rfl)
 · rcases h with h | h
   ·
     obtain ⟨d0, r, rfl, hm, hQ⟩ := h
     refine ⟨_, pss_cons (ps_ret (pe_and (pe_callB (cl_isi (K := K)) (by rfl) B.isinstance (by decide +kernel) (pa_cons (pv 0) (pa_cons (pe_bltn (v := .ty "int") (by rfl) B.int (by decide +kernel) rfl) pa_nil))) (pe_one (pe_not (pe_callB (cl_isi (K := K)) (by rfl) B.isinstance (by decide +kernel) (pa_cons (pv 0) (pa_cons (pe_bltn (v := .ty "bool") (by rfl) B.bool (by decide +kernel) rfl) pa_nil))))))) pss_nil, ?_⟩
     have c0 : Chg ([] : List Addr) H0 H0 := Chg.refl H0
     unfold Mi.m_l_int_0 at hm
     refine q_ret ?_
     refine c_val (val_andV (val_isi (val_var rfl) ty_int (n := "int") (m := "int") (b := true) (by decide +kernel)) (fun _ => (val_notV (val_isi (val_var rfl) ty_int (n := "int") (m := "bool") (b := false) (by decide +kernel))))) ?_
     obtain rfl := Option.some.inj hm
     exact hQ _ c0 
   ·
     obtain ⟨v0, d0, r, rfl, r0, hm, hQ⟩ := h
     refine ⟨_, pss_cons (ps_ret (pe_and (pe_callB (cl_isi (K := K)) (by rfl) B.isinstance (by decide +kernel) (pa_cons (pv 0) (pa_cons (pe_bltn (v := .ty "int") (by rfl) B.int (by decide +kernel) rfl) pa_nil))) (pe_one (pe_not (pe_callB (cl_isi (K := K)) (by rfl) B.isinstance (by decide +kernel) (pa_cons (pv 0) (pa_cons (pe_bltn (v := .ty "bool") (by rfl) B.bool (by decide +kernel) rfl) pa_nil))))))) pss_nil, ?_⟩
     have c0 : Chg ([] : List Addr) H0 H0 := Chg.refl H0
     unfold Mi.m_l_int_1 at hm
     refine q_ret ?_
     refine c_val (val_andV (val_isiO (n := "int") (m := "int") (b := true) tyr_int r0 (val_var rfl) (by decide +kernel) (by decide +kernel)) (fun _ => (val_notV (val_isiO (n := "int") (m := "bool") (b := false) tyr_int r0 (val_var rfl) (by decide +kernel) (by decide +kernel))))) ?_
     obtain rfl := Option.some.inj hm
     exact hQ _ c0 
abbrev s_l_spans : Stmt := topS 8
theorem sc_l_spans : FnScope ["_law_hand_here", "_law_spans_here", "_law_count", "_law_width", "_law_k", "_law_first"] ["_law_hand_here"] (defScope s_l_spans) := ⟨rfl, rfl, rfl, by decide +kernel, rfl, by decide +kernel, by decide +kernel⟩
def sp_l_spans (K : PySem.W.Frag) : Sp := fun vs H Q _ => ∃ (v0 : V) (F0 : List Addr) (d0 : (List Int)) (r : ((List (Int × Int)) × (List Int))), vs = [v0] ∧ (yLst yInt).rep K H F0 v0 d0 ∧ Mi.m_l_spans d0 = some r ∧ ∀ v H', Chg (F0) H H' → (yFl (yTup (sCons yInt (sOne yInt)))).rep K H' [] v r.1 → (yLst yInt).rep K H' F0 v0 r.2 → Q v H'
theorem ok_l_spans (B : Bi mg) (CN : Cs K mg) (D : Dfn K mg "_law_spans" s_l_spans) (C_l_pick : Cal P w K mg "_law_pick" ["_law_hand_here", "_law_size"] 1 (sp_l_pick K)) : Cal P w K mg "_law_spans" ["_law_hand_here"] 2 (sp_l_spans K) := by
 obtain ⟨f, fd, F, g⟩ := D.ex
 refine ⟨f, fd, g, F.kp, bindsF F (fun _ _ _ _ _ _ us hl => match us, hl with | [_], _ => rfl), fun base => F.ok sc_l_spans (fun vs H Q E h => ?_) (fun cdv A outer s H0 vs Q E hr h => ?_)⟩
 · obtain ⟨v0, F0, d0, r, rfl, r0, hm, hQ⟩ := h; rfl
 ·
   obtain ⟨v0, F0, d0, r, rfl, r0, hm, hQ⟩ := h
   refine ⟨_, pss_cons (ps_set (i := 1) sc_l_spans.nd rfl (.inl rfl) (pe_lst pa_nil))
     (pss_cons (ps_set (i := 2) sc_l_spans.nd rfl (.inl rfl) (pe_cc C_l_pick hr (pa_cons (pv 0) (pa_cons (pe_ix (ix_l (K := K)) (pe_lst (pa_cons pe_int (pa_cons pe_int (pa_cons pe_int (pa_cons pe_int (pa_cons pe_int (pa_cons pe_int (pa_cons pe_int (pa_cons pe_int pa_nil))))))))) (pe_cc C_l_pick hr (pa_cons (pv 0) (pa_cons pe_int pa_nil))) (fun _ _ => rfl)) pa_nil))))
     (pss_cons (ps_set (i := 3) sc_l_spans.nd rfl (.inl rfl) (pe_ix (ix_l (K := K)) (pe_lst (pa_cons pe_int (pa_cons pe_int (pa_cons pe_int pa_nil)))) (pe_cc C_l_pick hr (pa_cons (pv 0) (pa_cons pe_int pa_nil))) (fun _ _ => rfl)))
     (pss_cons (ps_for PassesOwn.never rfl (pi_range1 (by rfl) B.range (pa_cons (pv 2) pa_nil)) (pg_name (i := 4) sc_l_spans.nd rfl (.inl rfl)) (pss_cons (ps_set (i := 5) sc_l_spans.nd rfl (.inl rfl) (pe_cc C_l_pick hr (pa_cons (pv 0) (pa_cons (pv 3) pa_nil))))
     (pss_cons (ps_expr (pe_bm PySem.F.plainAttrs_list PySem.F.slot_list_append PySem.F.type_list_append mt_append (pv 1) (pa_cons (pe_tup (pa_cons (pv 5) (pa_cons (pe_op op_add (pv 5) (pe_cc C_l_pick hr (pa_cons (pv 0) (pa_cons (pe_ix (ix_l (K := K)) (pe_lst (pa_cons pe_int (pa_cons pe_int pa_nil))) (pe_cc C_l_pick hr (pa_cons (pv 0) (pa_cons pe_int pa_nil))) (fun _ _ => rfl)) pa_nil)))) pa_nil))) pa_nil)))
     (pss_nil))))
     (pss_cons (ps_ret (pe_frz (pv 1))) pss_nil)))), ?_⟩
   have c0 : Chg (F0) H0 H0 := Chg.refl H0
   unfold Mi.m_l_spans at hm
   refine q_asg ?_
   refine w_lst ?_
   refine w_args va_nil ?_
   refine e_lst (K := K) (τ := (yTup (sCons yInt (sOne yInt)))) (by exact Nat.le_of_ble_eq_true rfl) .nil fun p2 H6 np5 c3 r4 => ?_
   have d7 : Dj F0 [p2] := Ty.nin r0 np5
   have n8 : ∀ a ∈ [p2], H0 a = none := one_fresh (c0.dom p2 np5)
   have r0 := Ty.ex r0 c3
   have c0 := c0.trans c3.none
   refine g_name (σ' := [some v0, some (.ref p2), none, none, none, none]) rfl ?_
   refine q_asg ?_
   refine w_call ?_
   refine w_cons ?_
   refine c_val (val_var rfl) ?_
   refine w_cons ?_
   refine w_op ?_
   refine w_lst ?_
   refine w_args (va_cons val_c (va_cons val_c (va_cons val_c (va_cons val_c (va_cons val_c (va_cons val_c (va_cons val_c (va_cons val_c va_nil)))))))) ?_
   refine e_lst (K := K) (τ := yInt) (by exact Nat.le_of_ble_eq_true rfl) (.cons yInt_i (.cons yInt_i (.cons yInt_i (.cons yInt_i (.cons yInt_i (.cons yInt_i (.cons yInt_i (.cons yInt_i .nil)))))))) fun p9 H13 np12 c10 r11 => ?_
   have d14 : Dj F0 [p9] := Ty.nin r0 np12
   have d15 : Dj [p2] [p9] := Ty.nin r4 np12
   have n16 : ∀ a ∈ [p9], H0 a = none := one_fresh (c0.dom p9 np12)
   have r0 := Ty.ex r0 c10
   have r4 := Ty.ex r4 c10
   have c0 := c0.trans c10.none
   refine w_call ?_
   refine w_args (va_cons (val_var rfl) (va_cons val_c va_nil)) ?_
   obtain ⟨q17, hq17, hm⟩ := Mi.bnd hm
   refine ⟨v0, F0, d0, (8 : Int), q17, rfl, r0, hq17, fun H19 c18 r0 => ?_⟩
   have r4 := Ty.chg r4 c18 d7.symm
   have r11 := Ty.chg r11 c18 d14.symm
   have c0 := c0.join c18 (fun a h => .inl (h))
   obtain ⟨x20, hx20, hm⟩ := Mi.bnd hm
   refine w_ixL r11 hx20 fun u21 r22 => ?_
   obtain ⟨_, rfl⟩ := r22
   refine w_nil ?_
   obtain ⟨q23, hq23, hm⟩ := Mi.bnd hm
   refine ⟨v0, F0, q17.2, x20, q23, rfl, r0, hq23, fun H25 c24 r0 => ?_⟩
   have r4 := Ty.chg r4 c24 d7.symm
   have c0 := c0.join c24 (fun a h => .inl (h))
   refine g_name (σ' := [some v0, some (.ref p2), some (.int q23.1), none, none, none]) rfl ?_
   refine q_asg ?_
   refine w_op ?_
   refine w_lst ?_
   refine w_args (va_cons val_c (va_cons val_c (va_cons val_c va_nil))) ?_
   refine e_lst (K := K) (τ := yInt) (by exact Nat.le_of_ble_eq_true rfl) (.cons yInt_i (.cons yInt_i (.cons yInt_i .nil))) fun p26 H30 np29 c27 r28 => ?_
   have d31 : Dj F0 [p26] := Ty.nin r0 np29
   have d32 : Dj [p2] [p26] := Ty.nin r4 np29
   have n33 : ∀ a ∈ [p26], H0 a = none := one_fresh (c0.dom p26 np29)
   have r0 := Ty.ex r0 c27
   have r4 := Ty.ex r4 c27
   have c0 := c0.trans c27.none
   refine w_call ?_
   refine w_args (va_cons (val_var rfl) (va_cons val_c va_nil)) ?_
   obtain ⟨q34, hq34, hm⟩ := Mi.bnd hm
   refine ⟨v0, F0, q23.2, (3 : Int), q34, rfl, r0, hq34, fun H36 c35 r0 => ?_⟩
   have r4 := Ty.chg r4 c35 d7.symm
   have r28 := Ty.chg r28 c35 d31.symm
   have c0 := c0.join c35 (fun a h => .inl (h))
   obtain ⟨x37, hx37, hm⟩ := Mi.bnd hm
   refine w_ixL r28 hx37 fun u38 r39 => ?_
   obtain ⟨_, rfl⟩ := r39
   refine g_name (σ' := [some v0, some (.ref p2), some (.int q23.1), some (.int x37), none, none]) rfl ?_
   refine q_for ?_
   refine w_iRng1 ?_
   refine w_args (va_cons (val_var rfl) va_nil) ?_
   obtain ⟨g40, hg40, hm⟩ := Mi.bnd hm
   obtain ⟨e41, he41, hm⟩ := Mi.bnd hm
   refine l_rng1 hg40 (fun i σ' H' => ∃ (s42 : ((List Int) × (List (Int × Int)))) (y43 : Option V) (y44 : Option V), σ' = [some v0, some (.ref p2), some (.int q23.1), some (.int x37), y43, y44] ∧ Chg (F0) H0 H' ∧ (yLst yInt).rep K H' F0 v0 s42.1 ∧ (yLst (yTup (sCons yInt (sOne yInt)))).rep K H' [p2] (.ref p2) s42.2 ∧ Mi.forN (Mi.m_l_spans_b1 x37) s42 (List.drop i g40) = some e41) ⟨(q34.2, ([] : (List (Int × Int)))), none, none, rfl, c0, r0, r4, he41⟩ (fun i47 x46 σ' H' hx45 hp => ?_) (fun σ' H' hp => ?_)
   ·
     obtain ⟨s42, y43, y44, rfl, c0, r0, r4, hle41⟩ := hp
     obtain ⟨_, hbe41, hle41⟩ := Mi.forN_go hle41 hx45
     unfold Mi.m_l_spans_b1 at hbe41
     refine g_name (σ' := [some v0, some (.ref p2), some (.int q23.1), some (.int x37), some (.int x46), y44]) rfl ?_
     refine q_asg ?_
     refine w_call ?_
     refine w_args (va_cons (val_var rfl) (va_cons (val_var rfl) va_nil)) ?_
     obtain ⟨q48, hq48, hbe41⟩ := Mi.bnd hbe41
     refine ⟨v0, F0, s42.1, x37, q48, rfl, r0, hq48, fun H50 c49 r0 => ?_⟩
     have r4 := Ty.chg r4 c49 d7.symm
     have c0 := c0.join c49 (fun a h => .inl (h))
     refine g_name (σ' := [some v0, some (.ref p2), some (.int q23.1), some (.int x37), some (.int x46), some (.int q48.1)]) rfl ?_
     refine q_drop (w_bm (c_val (val_var rfl) ⟨tyv_lst r4, ?_⟩))
     refine w_cons ?_
     refine w_tup ?_
     refine w_cons ?_
     refine c_val (val_var rfl) ?_
     refine w_cons ?_
     refine w_op ?_
     refine c_val (val_var rfl) ?_
     refine w_call ?_
     refine w_cons ?_
     refine c_val (val_var rfl) ?_
     refine w_cons ?_
     refine w_op ?_
     refine w_lst ?_
     refine w_args (va_cons val_c (va_cons val_c va_nil)) ?_
     refine e_lst (K := K) (τ := yInt) (by exact Nat.le_of_ble_eq_true rfl) (.cons yInt_i (.cons yInt_i .nil)) fun p51 H55 np54 c52 r53 => ?_
     have d56 : Dj F0 [p51] := Ty.nin r0 np54
     have d57 : Dj [p2] [p51] := Ty.nin r4 np54
     have n58 : ∀ a ∈ [p51], H0 a = none := one_fresh (c0.dom p51 np54)
     have r0 := Ty.ex r0 c52
     have r4 := Ty.ex r4 c52
     have c0 := c0.trans c52.none
     refine w_call ?_
     refine w_args (va_cons (val_var rfl) (va_cons val_c va_nil)) ?_
     obtain ⟨q59, hq59, hbe41⟩ := Mi.bnd hbe41
     refine ⟨v0, F0, q48.2, (2 : Int), q59, rfl, r0, hq59, fun H61 c60 r0 => ?_⟩
     have r4 := Ty.chg r4 c60 d7.symm
     have r53 := Ty.chg r53 c60 d56.symm
     have c0 := c0.join c60 (fun a h => .inl (h))
     obtain ⟨x62, hx62, hbe41⟩ := Mi.bnd hbe41
     refine w_ixL r53 hx62 fun u63 r64 => ?_
     obtain ⟨_, rfl⟩ := r64
     refine w_nil ?_
     obtain ⟨q65, hq65, hbe41⟩ := Mi.bnd hbe41
     refine ⟨v0, F0, q59.2, x62, q65, rfl, r0, hq65, fun H67 c66 r0 => ?_⟩
     have r4 := Ty.chg r4 c66 d7.symm
     have c0 := c0.join c66 (fun a h => .inl (h))
     refine w_I0 ?_
     refine w_nil ?_
     refine e_tup (K := K) (ty := (sCons yInt (sOne yInt))) (F := []) (d := (q48.1, (q48.1 + q65.1))) (by exact Nat.le_of_ble_eq_true rfl) ⟨_, _, _, _, rfl, rfl, yInt_i, ⟨_, rfl, yInt_i⟩⟩ fun p68 H72 np71 c69 r70  => ?_
     have r0 := Ty.ex r0 c69
     have r4 := Ty.ex r4 c69
     have c0 := c0.trans c69.none
     refine w_nil ?_
     obtain ⟨x73, hx73, hbe41⟩ := Mi.bnd hbe41
     refine m_app r4 r70 hx73 fun H75 c74 r4 => ?_
     have r0 := Ty.chg r0 c74 d7
     have c0 := c0.join c74 (fun a h => .inr (n8 a h))
     refine w_nextJ ?_
     obtain rfl := Option.some.inj hbe41
     exact ⟨_, (some (.int x46)), (some (.int q48.1)), rfl, c0, r0, r4, hle41⟩
   obtain ⟨s42, y43, y44, rfl, c0, r0, r4, hle41⟩ := hp
   obtain rfl := Mi.forN_end hle41
   refine q_ret ?_
   refine w_frz ?_
   refine c_val (val_var rfl) ?_
   refine e_frz r4 fun H77 c76 r78 => ?_
   have r0 := Ty.chg r0 c76 d7
   have c0 := c0.join c76 (fun a h => .inr (n8 a h))
   obtain rfl := Option.some.inj hm
   exact hQ _ _ c0 r78 r0
abbrev s_l_meet : Stmt := topS 9
theorem sc_l_meet : FnScope ["_law_one", "_law_other"] ["_law_one", "_law_other"] (defScope s_l_meet) := ⟨rfl, rfl, rfl, by decide +kernel, rfl, by decide +kernel, by decide +kernel⟩
def sp_l_meet (K : PySem.W.Frag) : Sp := fun vs H Q _ => ∃ (v0 : V) (d0 : (Int × Int)) (v1 : V) (d1 : (Int × Int)) (r : Bool), vs = [v0, v1] ∧ (yTup (sCons yInt (sOne yInt))).rep K H [] v0 d0 ∧ (yTup (sCons yInt (sOne yInt))).rep K H [] v1 d1 ∧ Mi.m_l_meet d0 d1 = some r ∧ ∀ H', Chg ([]) H H' → Q (.bl r) H'
theorem ok_l_meet (B : Bi mg) (CN : Cs K mg) (D : Dfn K mg "_law_meet" s_l_meet)  : Cal P w K mg "_law_meet" ["_law_one", "_law_other"] 1 (sp_l_meet K) := by
 obtain ⟨f, fd, F, g⟩ := D.ex
 refine ⟨f, fd, g, F.kp, bindsF F (fun _ _ _ _ _ _ us hl => match us, hl with | [_, _], _ => rfl), fun base => F.ok sc_l_meet (fun vs H Q E h => ?_) (fun cdv A outer s H0 vs Q E hr h => ?_)⟩
 · obtain ⟨v0, d0, v1, d1, r, rfl, r0, r1, hm, hQ⟩ := h; rfl
 ·
   obtain ⟨v0, d0, v1, d1, r, rfl, r0, r1, hm, hQ⟩ := h
   refine ⟨_, pss_cons (ps_ret (pe_and (pe_cmpR op_le (pe_ix (ix_t (K := K)) (pv 0) pe_int (fun _ _ => rfl)) (pe_ix (ix_t (K := K)) (pv 1) pe_int (fun _ _ => rfl)) (nomark _)) (pe_one (pe_cmpR op_le (pe_ix (ix_t (K := K)) (pv 1) pe_int (fun _ _ => rfl)) (pe_ix (ix_t (K := K)) (pv 0) pe_int (fun _ _ => rfl)) (nomark _))))) pss_nil, ?_⟩
   have c0 : Chg ([] : List Addr) H0 H0 := Chg.refl H0
   unfold Mi.m_l_meet at hm
   refine q_ret ?_
   obtain ⟨u3, F4, r5, su6, kx7, ku8⟩ := itm_tup (n := 0) at0 r0
   obtain ⟨rfl, rfl⟩ := r5
   obtain ⟨u9, F10, r11, su12, kx13, ku14⟩ := itm_tup (n := 1) (atS at1) r1
   obtain ⟨rfl, rfl⟩ := r11
   obtain ⟨u16, F17, r18, su19, kx20, ku21⟩ := itm_tup (n := 0) at0 r1
   obtain ⟨rfl, rfl⟩ := r18
   obtain ⟨u22, F23, r24, su25, kx26, ku27⟩ := itm_tup (n := 1) (atS at1) r0
   obtain ⟨rfl, rfl⟩ := r24
   refine c_val (val_andV (val_le (ku8 (val_var rfl) val_c) (ku14 (val_var rfl) val_c)) (fun _ => (val_le (ku21 (val_var rfl) val_c) (ku27 (val_var rfl) val_c)))) ?_
   obtain rfl := Option.some.inj hm
   exact hQ _ c0 
abbrev s_l_earlier : Stmt := topS 10
abbrev N_l_earlier : List Str := ["_law_spans_here", "_law_k", "_law_rows", "_law_j"]
theorem sc_l_earlier : FnScope ["_law_spans_here", "_law_k", "_law_rows", "_law_j"] ["_law_spans_here", "_law_k"] (defScope s_l_earlier) := ⟨rfl, rfl, rfl, by decide +kernel, rfl, by decide +kernel, by decide +kernel⟩
def sp_l_earlier (K : PySem.W.Frag) : Sp := fun vs H Q _ => ∃ (v0 : V) (d0 : (List (Int × Int))) (d1 : Int) (r : (List Int)), vs = [v0, (.int d1)] ∧ (yFl (yTup (sCons yInt (sOne yInt)))).rep K H [] v0 d0 ∧ Mi.m_l_earlier d0 d1 = some r ∧ ∀ v H' F, Chg ([]) H H' → (yLst yInt).rep K H' F v r → (∀ a ∈ F, H a = none) → Q v H'
theorem ok_l_earlier (B : Bi mg) (CN : Cs K mg) (D : Dfn K mg "_law_earlier" s_l_earlier) (C_l_meet : Cal P w K mg "_law_meet" ["_law_one", "_law_other"] 1 (sp_l_meet K)) : Cal P w K mg "_law_earlier" ["_law_spans_here", "_law_k"] 2 (sp_l_earlier K) := by
 obtain ⟨f, fd, F, g⟩ := D.ex
 refine ⟨f, fd, g, F.kp, bindsF F (fun _ _ _ _ _ _ us hl => match us, hl with | [_, _], _ => rfl), fun base => F.ok sc_l_earlier (fun vs H Q E h => ?_) (fun cdv A outer s H0 vs Q E hr h => ?_)⟩
 · obtain ⟨v0, d0, d1, r, rfl, r0, hm, hQ⟩ := h; rfl
 ·
   obtain ⟨v0, d0, d1, r, rfl, r0, hm, hQ⟩ := h
   refine ⟨_, pss_cons (ps_setLc (i := 2) (own := [("_law_j", 3)]) rfl sc_l_earlier.nd rfl rfl (sw_true rfl rfl rfl (by decide +kernel)) (pi_range1 (by rfl) B.range (pa_cons (pe_callB (cl_len (K := K)) (by rfl) B.len PySem.boot_len (pa_cons (pv 0) pa_nil)) pa_nil)) (blkOk_by (own := [("_law_j", 3)]) (N := N_l_earlier) (sc := defScope s_l_earlier) (by decide +kernel)) (fun _ _ _ _ _ => (pg_name (i := 3) sc_l_earlier.nd rfl (.inl rfl))) (fun _ _ _ _ _ => (pts_one (pt_cmpR (op_ltTK (K := K) (units0 hr)) (pe_tup (pa_cons (pe_ix (ix_t (K := K)) (pe_ix (ix_l (K := K)) (pv 0) (pv 3) (fun _ _ => rfl)) pe_int (fun _ _ => rfl)) (pa_cons (pv 3) pa_nil))) (pe_tup (pa_cons (pe_ix (ix_t (K := K)) (pe_ix (ix_l (K := K)) (pv 0) (pv 1) (fun _ _ => rfl)) pe_int (fun _ _ => rfl)) (pa_cons (pv 1) pa_nil))) (nomark _)))) (fun _ _ _ _ _ => (pv 3)))
     (pss_cons (ps_ret (pe_lc (own := [("_law_j", 3)]) rfl sc_l_earlier.nd (pi_list (pv 2)) (blkOk_by (own := [("_law_j", 3)]) (N := N_l_earlier) (sc := defScope s_l_earlier) (by decide +kernel)) (fun _ _ _ _ _ => (pg_name (i := 3) sc_l_earlier.nd rfl (.inl rfl))) (fun _ _ _ _ _ => (pts_one (pt_val (pe_cc C_l_meet hr (pa_cons (pe_ix (ix_l (K := K)) (pv 0) (pv 3) (fun _ _ => rfl)) (pa_cons (pe_ix (ix_l (K := K)) (pv 0) (pv 1) (fun _ _ => rfl)) pa_nil)))))) (fun _ _ _ _ _ => (pv 3)))) pss_nil), ?_⟩
   have c0 : Chg ([] : List Addr) H0 H0 := Chg.refl H0
   unfold Mi.m_l_earlier at hm
   refine q_asg ?_
   refine w_lc ?_
   refine w_iRng1 ?_
   refine w_args (va_cons (val_lenF r0 (val_var rfl)) va_nil) ?_
   obtain ⟨g3, hg3, hm⟩ := Mi.bnd hm
   obtain ⟨e4, he4, hm⟩ := Mi.bnd hm
   refine kc_rng1 (K := K) (τ := yInt) hg3 (fun D6 i H' => ∃ (s5 : (List Int)), Chg ([] : List Addr) H0 H' ∧ (yFl (yTup (sCons yInt (sOne yInt)))).rep K H' [] v0 d0 ∧ (yLst yInt).rep K H' [D6] (.ref D6) s5 ∧ (∀ a ∈ [D6], H0 a = none) ∧ Mi.forN (Mi.m_l_earlier_b1 d0 d1) s5 (List.drop i g3) = some e4) (fun D6 H12 np11 c10 r7 => ⟨([] : (List Int)), c0.trans c10.none, (Ty.fz r0 c10), r7, one_fresh (c0.dom D6 np11), he4⟩) (fun D6 i15 x14 H16 hx13 hp => ?_) (fun D6 H' np11 hp => ?_)
   ·
     obtain ⟨s5, c0, r0, r7, n9, hle4⟩ := hp
     obtain ⟨_, hbe4, hle4⟩ := Mi.forN_go hle4 hx13
     unfold Mi.m_l_earlier_b1 at hbe4
     refine g_name (σ' := [some v0, some (.int d1), none, some (.int x14)]) rfl ?_
     refine ⟨rfl, ?_⟩
     refine w_test ?_
     refine w_op ?_
     refine w_tup ?_
     obtain ⟨x23, hx23, hbe4⟩ := Mi.bnd hbe4
     obtain ⟨u24, r25, ku26⟩ := itm_F r0 hx23
     obtain ⟨u27, F28, r29, su30, kx31, ku32⟩ := itm_tup (n := 0) at0 r25
     obtain ⟨rfl, rfl⟩ := r29
     refine w_args (va_cons (ku32 (ku26 (val_var rfl) (val_var rfl)) val_c) (va_cons (val_var rfl) va_nil)) ?_
     refine e_tup (K := K) (ty := (sCons yInt (sOne yInt))) (F := []) (d := (x23.1, x14)) (by exact Nat.le_of_ble_eq_true rfl) ⟨_, _, _, _, rfl, rfl, yInt_i, ⟨_, rfl, yInt_i⟩⟩ fun p33 H37 np36 c34 r35  => ?_
     have r0 := Ty.fz r0 c34
     have r7 := Ty.ex r7 c34
     have c0 := c0.trans c34.none
     refine w_tup ?_
     obtain ⟨x38, hx38, hbe4⟩ := Mi.bnd hbe4
     obtain ⟨u39, r40, ku41⟩ := itm_F r0 hx38
     obtain ⟨u42, F43, r44, su45, kx46, ku47⟩ := itm_tup (n := 0) at0 r40
     obtain ⟨rfl, rfl⟩ := r44
     refine w_args (va_cons (ku47 (ku41 (val_var rfl) (val_var rfl)) val_c) (va_cons (val_var rfl) va_nil)) ?_
     refine e_tup (K := K) (ty := (sCons yInt (sOne yInt))) (F := []) (d := (x38.1, d1)) (by exact Nat.le_of_ble_eq_true rfl) ⟨_, _, _, _, rfl, rfl, yInt_i, ⟨_, rfl, yInt_i⟩⟩ fun p48 H52 np51 c49 r50  => ?_
     have r0 := Ty.fz r0 c49
     have r7 := Ty.ex r7 c49
     have r35 := Ty.fz r35 c49
     have c0 := c0.trans c49.none
     refine w_ltP r35 r50 ?_
     refine ⟨_, rfl, ?_⟩
     refine c_if (fun hb => ?_) (fun hb => ?_)
     ·
       replace hbe4 := Mi.ifT hb hbe4
       refine c_val (val_var rfl) ?_
       obtain ⟨x53, hx53, hbe4⟩ := Mi.bnd hbe4
       refine e_app r7 yInt_i hx53 fun H55 c54 r7 => ?_
       have r0 := Ty.fz r0 c54
       have c0 := c0.join c54 (fun a h => .inr (n9 a h))
       obtain rfl := Option.some.inj hbe4
       exact ⟨x53, c0, r0, r7, n9, hle4⟩
     ·
       replace hbe4 := Mi.ifF hb hbe4
       obtain rfl := Option.some.inj hbe4
       exact ⟨s5, c0, r0, r7, n9, hle4⟩
   obtain ⟨s5, c0, r0, r7, n9, hle4⟩ := hp
   obtain rfl := Mi.forN_end hle4
   refine g_name (σ' := [some v0, some (.int d1), some (.ref D6), none]) rfl ?_
   refine q_ret ?_
   refine w_lc ?_
   refine w_iList ?_
   refine c_val (val_var rfl) ?_
   obtain ⟨e56, he56, hm⟩ := Mi.bnd hm
   refine kc_lst (K := K) (τ := yInt) r7 (fun D58 i H' => ∃ (s57 : (List Int)), Chg ([] : List Addr) H0 H' ∧ (yFl (yTup (sCons yInt (sOne yInt)))).rep K H' [] v0 d0 ∧ (yLst yInt).rep K H' [D6] (.ref D6) s5 ∧ (yLst yInt).rep K H' [D58] (.ref D58) s57 ∧ Dj [D6] [D58] ∧ (∀ a ∈ [D58], H0 a = none) ∧ Mi.forN (Mi.m_l_earlier_b2 d0 d1) s57 (List.drop i s5) = some e56) (fun D58 H65 np64 c63 r59 => ⟨([] : (List Int)), c0.trans c63.none, (Ty.fz r0 c63), (Ty.ex r7 c63), r59, Ty.nin r7 np64, one_fresh (c0.dom D58 np64), he56⟩) (fun D58 i H' hp => by obtain ⟨s57, c0, r0, r7, r59, d60, n62, _⟩ := hp; exact r7) (fun D58 i68 x67 u70 H69 hx66 r71 hp => ?_) (fun D58 H' np64 hp => ?_)
   ·
     obtain ⟨s57, c0, r0, r7, r59, d60, n62, hle56⟩ := hp
     obtain ⟨_, hbe56, hle56⟩ := Mi.forN_go hle56 hx66
     unfold Mi.m_l_earlier_b2 at hbe56
     obtain ⟨_, rfl⟩ := r71
     refine g_name (σ' := [some v0, some (.int d1), some (.ref D6), some (.int x67)]) rfl ?_
     refine ⟨rfl, ?_⟩
     refine w_B ?_
     refine w_call ?_
     obtain ⟨x76, hx76, hbe56⟩ := Mi.bnd hbe56
     obtain ⟨u77, r78, ku79⟩ := itm_F r0 hx76
     obtain ⟨x80, hx80, hbe56⟩ := Mi.bnd hbe56
     obtain ⟨u81, r82, ku83⟩ := itm_F r0 hx80
     refine w_args (va_cons (ku79 (val_var rfl) (val_var rfl)) (va_cons (ku83 (val_var rfl) (val_var rfl)) va_nil)) ?_
     obtain ⟨q84, hq84, hbe56⟩ := Mi.bnd hbe56
     refine ⟨u77, x76, u81, x80, q84, rfl, r78, r82, hq84, fun H86 c85  => ?_⟩
     have r0 := Ty.fz r0 c85
     have r7 := Ty.ex r7 c85
     have r59 := Ty.ex r59 c85
     have c0 := c0.trans c85.none
     refine ⟨_, rfl, ?_⟩
     refine c_if (fun hb => ?_) (fun hb => ?_)
     ·
       replace hbe56 := Mi.ifT hb hbe56
       refine c_val (val_var rfl) ?_
       obtain ⟨x87, hx87, hbe56⟩ := Mi.bnd hbe56
       refine e_app r59 yInt_i hx87 fun H89 c88 r59 => ?_
       have r0 := Ty.fz r0 c88
       have r7 := Ty.chg r7 c88 d60
       have c0 := c0.join c88 (fun a h => .inr (n62 a h))
       obtain rfl := Option.some.inj hbe56
       exact ⟨x87, c0, r0, r7, r59, d60, n62, hle56⟩
     ·
       replace hbe56 := Mi.ifF hb hbe56
       obtain rfl := Option.some.inj hbe56
       exact ⟨s57, c0, r0, r7, r59, d60, n62, hle56⟩
   obtain ⟨s57, c0, r0, r7, r59, d60, n62, hle56⟩ := hp
   obtain rfl := Mi.forN_end hle56
   obtain rfl := Option.some.inj hm
   exact hQ _ _ _ c0 r59 n62 
abbrev s_l_numbers_hold : Stmt := topS 11
abbrev N_l_numbers_hold : List Str := ["_law_spans_here", "_law_numbers", "_law_k", "_law_taken", "_law_j", "_law_x"]
theorem sc_l_numbers_hold : FnScope ["_law_spans_here", "_law_numbers", "_law_k", "_law_taken", "_law_j", "_law_x"] ["_law_spans_here", "_law_numbers"] (defScope s_l_numbers_hold) := ⟨rfl, rfl, rfl, by decide +kernel, rfl, by decide +kernel, by decide +kernel⟩
def sp_l_numbers_hold (K : PySem.W.Frag) : Sp := fun vs H Q _ => ∃ (v0 : V) (d0 : (List (Int × Int))) (v1 : V) (F1 : List Addr) (d1 : (List Int)) (r : Bool), vs = [v0, v1] ∧ (yFl (yTup (sCons yInt (sOne yInt)))).rep K H [] v0 d0 ∧ (yLst yInt).rep K H F1 v1 d1 ∧ Mi.m_l_numbers_hold d0 d1 = some r ∧ ∀ H', Chg ([]) H H' → Q (.bl r) H'
theorem ok_l_numbers_hold (B : Bi mg) (CN : Cs K mg) (D : Dfn K mg "_law_numbers_hold" s_l_numbers_hold) (C_l_int : Cal P w K mg "_law_int" ["_law_x"] 1 (sp_l_int K)) (C_l_earlier : Cal P w K mg "_law_earlier" ["_law_spans_here", "_law_k"] 2 (sp_l_earlier K)) : Cal P w K mg "_law_numbers_hold" ["_law_spans_here", "_law_numbers"] 3 (sp_l_numbers_hold K) := by
 obtain ⟨f, fd, F, g⟩ := D.ex
 refine ⟨f, fd, g, F.kp, bindsF F (fun _ _ _ _ _ _ us hl => match us, hl with | [_, _], _ => rfl), fun base => F.ok sc_l_numbers_hold (fun vs H Q E h => ?_) (fun cdv A outer s H0 vs Q E hr h => ?_)⟩
 · obtain ⟨v0, d0, v1, F1, d1, r, rfl, r0, r1, hm, hQ⟩ := h; rfl
 ·
   obtain ⟨v0, d0, v1, F1, d1, r, rfl, r0, r1, hm, hQ⟩ := h
   refine ⟨_, pss_cons (ps_if (PW.pt (pw_or (pt_not (pt_val (pe_callB (cl_isi (K := K)) (by rfl) B.isinstance (by decide +kernel) (pa_cons (pv 1) (pa_cons (pe_bltn (v := .ty "list") (by rfl) B.list (by decide +kernel) rfl) pa_nil))))) (pw_or1 (pt_cmpR op_ne (pe_callB (cl_len (K := K)) (by rfl) B.len PySem.boot_len (pa_cons (pv 1) pa_nil)) (pe_callB (cl_len (K := K)) (by rfl) B.len PySem.boot_len (pa_cons (pv 0) pa_nil)) (nomark _))))) (pss_cons (ps_ret pe_bl) pss_nil) (pss_nil))
     (pss_cons (ps_for PassesOwn.never rfl (pi_range1 (by rfl) B.range (pa_cons (pe_callB (cl_len (K := K)) (by rfl) B.len PySem.boot_len (pa_cons (pv 0) pa_nil)) pa_nil)) (pg_name (i := 2) sc_l_numbers_hold.nd rfl (.inl rfl)) (pss_cons (ps_if (PW.pt (pw_or (pt_not (pt_val (pe_cc C_l_int hr (pa_cons (pe_ix (ix_l (K := K)) (pv 1) (pv 2) (fun _ _ => rfl)) pa_nil)))) (pw_or (pt_cmpR op_lt (pe_ix (ix_l (K := K)) (pv 1) (pv 2) (fun _ _ => rfl)) pe_int (nomark _)) (pw_or1 (pt_cmpR op_ge (pe_ix (ix_l (K := K)) (pv 1) (pv 2) (fun _ _ => rfl)) (pe_callB (cl_len (K := K)) (by rfl) B.len PySem.boot_len (pa_cons (pv 0) pa_nil)) (nomark _)))))) (pss_cons (ps_ret pe_bl) pss_nil) (pss_nil))
     (pss_cons (ps_set (i := 3) sc_l_numbers_hold.nd rfl (.inr rfl) (pe_lc (own := [("_law_j", 4)]) rfl sc_l_numbers_hold.nd (pi_list (pe_cc C_l_earlier hr (pa_cons (pv 0) (pa_cons (pv 2) pa_nil)))) (blkOk_by (own := [("_law_j", 4)]) (N := N_l_numbers_hold) (sc := defScope s_l_numbers_hold) (by decide +kernel)) (fun _ _ _ _ _ => (pg_name (i := 4) sc_l_numbers_hold.nd rfl (.inl rfl))) (fun _ _ _ _ _ => pts_nil) (fun _ _ _ _ _ => (pe_ix (ix_l (K := K)) (pv 1) (pv 4) (fun _ _ => rfl)))))
     (pss_cons (ps_if (PW.pt (pw_or (pt_cmpR (op_in_q (K := K)) (pe_ix (ix_l (K := K)) (pv 1) (pv 2) (fun _ _ => rfl)) (pv 3) (by rfl)) (pw_or1 (pt_cmpR op_gt (pe_callB (cl_len (K := K)) (by rfl) B.len PySem.boot_len (pa_cons (pe_lc (own := [("_law_x", 5)]) rfl sc_l_numbers_hold.nd (pi_range1 (by rfl) B.range (pa_cons (pe_ix (ix_l (K := K)) (pv 1) (pv 2) (fun _ _ => rfl)) pa_nil)) (blkOk_by (own := [("_law_x", 5)]) (N := N_l_numbers_hold) (sc := defScope s_l_numbers_hold) (by decide +kernel)) (fun _ _ _ _ _ => (pg_name (i := 5) sc_l_numbers_hold.nd rfl (.inl rfl))) (fun _ _ _ _ _ => (pts_one (pt_cmpR (op_ni_q (K := K)) (pv 5) (pv 3) (by rfl)))) (fun _ _ _ _ _ => (pv 5))) pa_nil)) pe_int (nomark _))))) (pss_cons (ps_ret pe_bl) pss_nil) (pss_nil))
     (pss_nil)))))
     (pss_cons (ps_ret pe_bl) pss_nil)), ?_⟩
   have c0 : Chg ([] : List Addr) H0 H0 := Chg.refl H0
   unfold Mi.m_l_numbers_hold at hm
   refine q_if (ans_orB (ans_N (ans_B (val_isi (val_var rfl) (ty_lst r1) (n := "list") (m := "list") (b := true) (by decide +kernel)))) (fun _ => (ans_t (val_neI (val_lenL r1 (val_var rfl)) (val_lenF r0 (val_var rfl)))))) (fun hb => ?_) (fun hb => ?_)
   ·
     replace hm := Mi.ifT hb hm
     refine q_ret ?_
     refine c_val val_c ?_
     obtain rfl := Option.some.inj hm
     exact hQ _ c0 
   replace hm := Mi.ifF hb hm
   refine w_fall ?_
   refine q_for ?_
   refine w_iRng1 ?_
   refine w_args (va_cons (val_lenF r0 (val_var rfl)) va_nil) ?_
   obtain ⟨g4, hg4, hm⟩ := Mi.bnd hm
   obtain ⟨e5, he5, hm⟩ := Mi.bnd hm
   refine l_rng1 hg4 (fun i σ' H' => ∃ (s6 : Unit) (y7 : Option V) (y8 : Option V), σ' = [some v0, some v1, y7, y8, none, none] ∧ Chg ([] : List Addr) H0 H' ∧ (yFl (yTup (sCons yInt (sOne yInt)))).rep K H' [] v0 d0 ∧ (yLst yInt).rep K H' F1 v1 d1 ∧ Mi.forR (Mi.m_l_numbers_hold_b1 d0 d1) s6 (List.drop i g4) = some e5) ⟨(), none, none, rfl, c0, r0, r1, he5⟩ (fun i11 x10 σ' H' hx9 hp => ?_) (fun σ' H' hp => ?_)
   ·
     obtain ⟨s6, y7, y8, rfl, c0, r0, r1, hle5⟩ := hp
     obtain ⟨o12, hbe5, hore5⟩ := Mi.forR_go hle5 hx9
     unfold Mi.m_l_numbers_hold_b1 at hbe5
     refine g_name (σ' := [some v0, some v1, some (.int x10), y8, none, none]) rfl ?_
     refine q_ifS ?_
     obtain ⟨b13, hb13, hbe5⟩ := Mi.bnd hbe5
     refine j_tt b13 (R := fun H' => Chg ([] : List Addr) H0 H' ∧ (yFl (yTup (sCons yInt (sOne yInt)))).rep K H' [] v0 d0 ∧ (yLst yInt).rep K H' F1 v1 d1) (fun Q' kq => ?_) (fun H' hj => ?_)
     ·
       refine w_or ?_
       refine w_not ?_
       refine w_B ?_
       refine w_call ?_
       obtain ⟨x14, hx14, hb13⟩ := Mi.bnd hb13
       refine w_args (va_cons (itm_LI r1 hx14 (val_var rfl) (val_var rfl)) va_nil) ?_
       obtain ⟨q15, hq15, hb13⟩ := Mi.bnd hb13
       refine Or.inl ⟨x14, q15, rfl, hq15, fun H17 c16  => ?_⟩
       have r0 := Ty.fz r0 c16
       have r1 := Ty.ex r1 c16
       have c0 := c0.trans c16.none
       refine ⟨_, rfl, ?_⟩
       refine c_if (fun hb => ?_) (fun hb => ?_)
       ·
         replace hb13 := Mi.ifT hb hb13
         obtain rfl := Option.some.inj hb13
         exact kq _ ⟨c0, r0, r1⟩
       replace hb13 := Mi.ifF hb hb13
       refine w_or ?_
       obtain ⟨x18, hx18, hb13⟩ := Mi.bnd hb13
       refine c_ans (ans_t (val_lt (itm_LI r1 hx18 (val_var rfl) (val_var rfl)) val_c)) ?_
       refine c_if (fun hb => ?_) (fun hb => ?_)
       ·
         replace hb13 := Mi.ifT hb hb13
         obtain rfl := Option.some.inj hb13
         exact kq _ ⟨c0, r0, r1⟩
       replace hb13 := Mi.ifF hb hb13
       obtain ⟨x19, hx19, hb13⟩ := Mi.bnd hb13
       refine c_ans (ans_t (val_ge (itm_LI r1 hx19 (val_var rfl) (val_var rfl)) (val_lenF r0 (val_var rfl)))) ?_
       obtain rfl := Option.some.inj hb13
       exact kq _ ⟨c0, r0, r1⟩
     obtain ⟨c0, r0, r1⟩ := hj
     refine c_if (fun hb => ?_) (fun hb => ?_)
     ·
       replace hbe5 := Mi.ifT hb hbe5
       refine q_ret ?_
       refine c_val val_c ?_
       obtain rfl := Option.some.inj hbe5
       obtain rfl := Mi.or_inl hore5
       obtain rfl := Option.some.inj (Mi.orR_inl hm)
       exact hQ _ c0 
     replace hbe5 := Mi.ifF hb hbe5
     refine w_fall ?_
     refine q_asg ?_
     refine w_lc ?_
     refine w_iList ?_
     refine w_call ?_
     refine w_args (va_cons (val_var rfl) (va_cons (val_var rfl) va_nil)) ?_
     obtain ⟨q20, hq20, hbe5⟩ := Mi.bnd hbe5
     refine ⟨v0, d0, x10, q20, rfl, r0, hq20, fun v23 H22 F25 c21 r24 fr26  => ?_⟩
     have d27 : Dj F1 F25 := Ty.fresh r1 fr26
     have n28 : ∀ a ∈ F25, H0 a = none := fun a h => c0.dom a (fr26 a h)
     have r0 := Ty.fz r0 c21
     have r1 := Ty.ex r1 c21
     have c0 := c0.trans c21.none
     obtain ⟨e29, he29, hbe5⟩ := Mi.bnd hbe5
     refine kc_lst (K := K) (τ := yInt) r24 (fun D31 i H' => ∃ (s30 : (List Int)), Chg ([] : List Addr) H0 H' ∧ (yFl (yTup (sCons yInt (sOne yInt)))).rep K H' [] v0 d0 ∧ (yLst yInt).rep K H' F1 v1 d1 ∧ (yLst yInt).rep K H' F25 v23 q20 ∧ (yLst yInt).rep K H' [D31] (.ref D31) s30 ∧ Dj F1 [D31] ∧ Dj F25 [D31] ∧ (∀ a ∈ [D31], H0 a = none) ∧ Mi.forN (Mi.m_l_numbers_hold_b2 d1) s30 (List.drop i q20) = some e29) (fun D31 H39 np38 c37 r32 => ⟨([] : (List Int)), c0.trans c37.none, (Ty.fz r0 c37), (Ty.ex r1 c37), (Ty.ex r24 c37), r32, Ty.nin r1 np38, Ty.nin r24 np38, one_fresh (c0.dom D31 np38), he29⟩) (fun D31 i H' hp => by obtain ⟨s30, c0, r0, r1, r24, r32, d33, d34, n36, _⟩ := hp; exact r24) (fun D31 i42 x41 u44 H43 hx40 r45 hp => ?_) (fun D31 H' np38 hp => ?_)
     ·
       obtain ⟨s30, c0, r0, r1, r24, r32, d33, d34, n36, hle29⟩ := hp
       obtain ⟨_, hbe29, hle29⟩ := Mi.forN_go hle29 hx40
       unfold Mi.m_l_numbers_hold_b2 at hbe29
       obtain ⟨_, rfl⟩ := r45
       refine g_name (σ' := [some v0, some v1, some (.int x10), y8, some (.int x41), none]) rfl ?_
       refine ⟨rfl, ?_⟩
       refine w_yes ?_
       refine iteT ?_
       obtain ⟨x50, hx50, hbe29⟩ := Mi.bnd hbe29
       refine c_val (itm_LI r1 hx50 (val_var rfl) (val_var rfl)) ?_
       obtain ⟨x51, hx51, hbe29⟩ := Mi.bnd hbe29
       refine e_app r32 yInt_i hx51 fun H53 c52 r32 => ?_
       have r0 := Ty.fz r0 c52
       have r1 := Ty.chg r1 c52 d33
       have r24 := Ty.chg r24 c52 d34
       have c0 := c0.join c52 (fun a h => .inr (n36 a h))
       obtain rfl := Option.some.inj hbe29
       exact ⟨x51, c0, r0, r1, r24, r32, d33, d34, n36, hle29⟩
     obtain ⟨s30, c0, r0, r1, r24, r32, d33, d34, n36, hle29⟩ := hp
     obtain rfl := Mi.forN_end hle29
     refine g_name (σ' := [some v0, some v1, some (.int x10), some (.ref D31), none, none]) rfl ?_
     refine q_ifS ?_
     obtain ⟨b54, hb54, hbe5⟩ := Mi.bnd hbe5
     refine j_tt b54 (R := fun H' => Chg ([] : List Addr) H0 H' ∧ (yFl (yTup (sCons yInt (sOne yInt)))).rep K H' [] v0 d0 ∧ (yLst yInt).rep K H' F1 v1 d1 ∧ (yLst yInt).rep K H' [D31] (.ref D31) s30) (fun Q' kq => ?_) (fun H' hj => ?_)
     ·
       refine w_or ?_
       obtain ⟨x55, hx55, hb54⟩ := Mi.bnd hb54
       refine c_ans (ans_t (val_inL r32 (itm_LI r1 hx55 (val_var rfl) (val_var rfl)) (val_var rfl))) ?_
       refine c_if (fun hb => ?_) (fun hb => ?_)
       ·
         replace hb54 := Mi.ifT hb hb54
         obtain rfl := Option.some.inj hb54
         exact kq _ ⟨c0, r0, r1, r32⟩
       replace hb54 := Mi.ifF hb hb54
       refine w_test ?_
       refine w_op ?_
       refine w_cb ?_
       refine w_cons ?_
       refine w_lc ?_
       refine w_iRng1 ?_
       obtain ⟨x56, hx56, hb54⟩ := Mi.bnd hb54
       refine w_args (va_cons (itm_LI r1 hx56 (val_var rfl) (val_var rfl)) va_nil) ?_
       obtain ⟨g57, hg57, hb54⟩ := Mi.bnd hb54
       obtain ⟨e58, he58, hb54⟩ := Mi.bnd hb54
       refine kc_rng1 (K := K) (τ := yInt) hg57 (fun D60 i H' => ∃ (s59 : (List Int)), Chg ([] : List Addr) H0 H' ∧ (yFl (yTup (sCons yInt (sOne yInt)))).rep K H' [] v0 d0 ∧ (yLst yInt).rep K H' F1 v1 d1 ∧ (yLst yInt).rep K H' [D31] (.ref D31) s30 ∧ (yLst yInt).rep K H' [D60] (.ref D60) s59 ∧ Dj F1 [D60] ∧ Dj [D31] [D60] ∧ (∀ a ∈ [D60], H0 a = none) ∧ Mi.forN (Mi.m_l_numbers_hold_b3 s30) s59 (List.drop i g57) = some e58) (fun D60 H68 np67 c66 r61 => ⟨([] : (List Int)), c0.trans c66.none, (Ty.fz r0 c66), (Ty.ex r1 c66), (Ty.ex r32 c66), r61, Ty.nin r1 np67, Ty.nin r32 np67, one_fresh (c0.dom D60 np67), he58⟩) (fun D60 i71 x70 H72 hx69 hp => ?_) (fun D60 H' np67 hp => ?_)
       ·
         obtain ⟨s59, c0, r0, r1, r32, r61, d62, d63, n65, hle58⟩ := hp
         obtain ⟨_, hbe58, hle58⟩ := Mi.forN_go hle58 hx69
         unfold Mi.m_l_numbers_hold_b3 at hbe58
         refine g_name (σ' := [some v0, some v1, some (.int x10), some (.ref D31), none, some (.int x70)]) rfl ?_
         refine ⟨rfl, ?_⟩
         refine c_ans (ans_t (val_niL r32 (val_var rfl) (val_var rfl))) ?_
         refine c_if (fun hb => ?_) (fun hb => ?_)
         ·
           replace hbe58 := Mi.ifT hb hbe58
           refine c_val (val_var rfl) ?_
           obtain ⟨x79, hx79, hbe58⟩ := Mi.bnd hbe58
           refine e_app r61 yInt_i hx79 fun H81 c80 r61 => ?_
           have r0 := Ty.fz r0 c80
           have r1 := Ty.chg r1 c80 d62
           have r32 := Ty.chg r32 c80 d63
           have c0 := c0.join c80 (fun a h => .inr (n65 a h))
           obtain rfl := Option.some.inj hbe58
           exact ⟨x79, c0, r0, r1, r32, r61, d62, d63, n65, hle58⟩
         ·
           replace hbe58 := Mi.ifF hb hbe58
           obtain rfl := Option.some.inj hbe58
           exact ⟨s59, c0, r0, r1, r32, r61, d62, d63, n65, hle58⟩
       obtain ⟨s59, c0, r0, r1, r32, r61, d62, d63, n65, hle58⟩ := hp
       obtain rfl := Mi.forN_end hle58
       refine w_nil ?_
       refine w_lenL r61 ?_
       refine c_val val_c ?_
       refine w_I0 ?_
       refine ⟨_, rfl, ?_⟩
       obtain rfl := Option.some.inj hb54
       exact kq _ ⟨c0, r0, r1, r32⟩
     obtain ⟨c0, r0, r1, r32⟩ := hj
     refine c_if (fun hb => ?_) (fun hb => ?_)
     ·
       replace hbe5 := Mi.ifT hb hbe5
       refine q_ret ?_
       refine c_val val_c ?_
       obtain rfl := Option.some.inj hbe5
       obtain rfl := Mi.or_inl hore5
       obtain rfl := Option.some.inj (Mi.orR_inl hm)
       exact hQ _ c0 
     replace hbe5 := Mi.ifF hb hbe5
     refine w_fall ?_
     refine w_nextJ ?_
     obtain rfl := Option.some.inj hbe5
     replace hore5 := Mi.or_inr hore5
     exact ⟨_, (some (.int x10)), (some (.ref D31)), rfl, c0, r0, r1, hore5⟩
   obtain ⟨s6, y7, y8, rfl, c0, r0, r1, hle5⟩ := hp
   obtain rfl := Mi.forR_end hle5
   replace hm := Mi.orR_inr hm
   refine q_ret ?_
   refine c_val val_c ?_
   obtain rfl := Option.some.inj hm
   exact hQ _ c0 
abbrev s_l_many : Stmt := topS 12
abbrev N_l_many : List Str := ["_law_spans_here", "_law_hour", "_law_span"]
theorem sc_l_many : FnScope ["_law_spans_here", "_law_hour", "_law_span"] ["_law_spans_here", "_law_hour"] (defScope s_l_many) := ⟨rfl, rfl, rfl, by decide +kernel, rfl, by decide +kernel, by decide +kernel⟩
def sp_l_many (K : PySem.W.Frag) : Sp := fun vs H Q _ => ∃ (v0 : V) (d0 : (List (Int × Int))) (d1 : Int) (r : Int), vs = [v0, (.int d1)] ∧ (yFl (yTup (sCons yInt (sOne yInt)))).rep K H [] v0 d0 ∧ Mi.m_l_many d0 d1 = some r ∧ ∀ H', Chg ([]) H H' → Q (.int r) H'
theorem ok_l_many (B : Bi mg) (CN : Cs K mg) (D : Dfn K mg "_law_many" s_l_many)  : Cal P w K mg "_law_many" ["_law_spans_here", "_law_hour"] 1 (sp_l_many K) := by
 obtain ⟨f, fd, F, g⟩ := D.ex
 refine ⟨f, fd, g, F.kp, bindsF F (fun _ _ _ _ _ _ us hl => match us, hl with | [_, _], _ => rfl), fun base => F.ok sc_l_many (fun vs H Q E h => ?_) (fun cdv A outer s H0 vs Q E hr h => ?_)⟩
 · obtain ⟨v0, d0, d1, r, rfl, r0, hm, hQ⟩ := h; rfl
 ·
   obtain ⟨v0, d0, d1, r, rfl, r0, hm, hQ⟩ := h
   refine ⟨_, pss_cons (ps_ret (pe_callB (cl_len (K := K)) (by rfl) B.len PySem.boot_len (pa_cons (pe_lc (own := [("_law_span", 2)]) rfl sc_l_many.nd (pi_list (pv 0)) (blkOk_by (own := [("_law_span", 2)]) (N := N_l_many) (sc := defScope s_l_many) (by decide +kernel)) (fun _ _ _ _ _ => (pg_name (i := 2) sc_l_many.nd rfl (.inl rfl))) (fun _ _ _ _ _ => (pts_one (PW.pt (pw_and (pt_cmpR op_le (pe_ix (ix_t (K := K)) (pv 2) pe_int (fun _ _ => rfl)) (pv 1) (nomark _)) (pw_and1 (pt_cmpR op_le (pv 1) (pe_ix (ix_t (K := K)) (pv 2) pe_int (fun _ _ => rfl)) (nomark _))))))) (fun _ _ _ _ _ => (pv 2))) pa_nil))) pss_nil, ?_⟩
   have c0 : Chg ([] : List Addr) H0 H0 := Chg.refl H0
   unfold Mi.m_l_many at hm
   refine q_ret ?_
   refine w_cb ?_
   refine w_cons ?_
   refine w_lc ?_
   refine w_iList ?_
   refine c_val (val_var rfl) ?_
   obtain ⟨e3, he3, hm⟩ := Mi.bnd hm
   refine kc_fl (K := K) (τ := (yTup (sCons yInt (sOne yInt)))) r0 (fun D5 i H' => ∃ (s4 : (List (Int × Int))), Chg ([] : List Addr) H0 H' ∧ (yFl (yTup (sCons yInt (sOne yInt)))).rep K H' [] v0 d0 ∧ (yLst (yTup (sCons yInt (sOne yInt)))).rep K H' [D5] (.ref D5) s4 ∧ (∀ a ∈ [D5], H0 a = none) ∧ Mi.forN (Mi.m_l_many_b1 d1) s4 (List.drop i d0) = some e3) (fun D5 H11 np10 c9 r6 => ⟨([] : (List (Int × Int))), c0.trans c9.none, (Ty.fz r0 c9), r6, one_fresh (c0.dom D5 np10), he3⟩) (fun D5 i H' hp => by obtain ⟨s4, c0, r0, r6, n8, _⟩ := hp; exact r0) (fun D5 i14 x13 u16 H15 hx12 r17 hp => ?_) (fun D5 H' np10 hp => ?_)
   ·
     obtain ⟨s4, c0, r0, r6, n8, hle3⟩ := hp
     obtain ⟨_, hbe3, hle3⟩ := Mi.forN_go hle3 hx12
     unfold Mi.m_l_many_b1 at hbe3
     refine g_name (σ' := [some v0, some (.int d1), some u16]) rfl ?_
     refine ⟨rfl, ?_⟩
     obtain ⟨u22, F23, r24, su25, kx26, ku27⟩ := itm_tup (n := 0) at0 r17
     obtain ⟨rfl, rfl⟩ := r24
     obtain ⟨u29, F30, r31, su32, kx33, ku34⟩ := itm_tup (n := 1) (atS at1) r17
     obtain ⟨rfl, rfl⟩ := r31
     refine c_ans (ans_andB (ans_t (val_le (ku27 (val_var rfl) val_c) (val_var rfl))) (fun _ => (ans_t (val_le (val_var rfl) (ku34 (val_var rfl) val_c))))) ?_
     refine c_if (fun hb => ?_) (fun hb => ?_)
     ·
       replace hbe3 := Mi.ifT hb hbe3
       refine c_val (val_var rfl) ?_
       obtain ⟨x35, hx35, hbe3⟩ := Mi.bnd hbe3
       refine e_app r6 r17 hx35 fun H37 c36 r6 => ?_
       have r0 := Ty.fz r0 c36
       have r17 := Ty.fz r17 c36
       have c0 := c0.join c36 (fun a h => .inr (n8 a h))
       obtain rfl := Option.some.inj hbe3
       exact ⟨x35, c0, r0, r6, n8, hle3⟩
     ·
       replace hbe3 := Mi.ifF hb hbe3
       obtain rfl := Option.some.inj hbe3
       exact ⟨s4, c0, r0, r6, n8, hle3⟩
   obtain ⟨s4, c0, r0, r6, n8, hle3⟩ := hp
   obtain rfl := Mi.forN_end hle3
   refine w_nil ?_
   refine w_lenL r6 ?_
   obtain rfl := Option.some.inj hm
   exact hQ _ c0 
abbrev s_l_berths_hold : Stmt := topS 13
abbrev N_l_berths_hold : List Str := ["_law_told", "_law_spans_here", "_law_span", "_law_many_here"]
theorem sc_l_berths_hold : FnScope ["_law_told", "_law_spans_here", "_law_span", "_law_many_here"] ["_law_told", "_law_spans_here"] (defScope s_l_berths_hold) := ⟨rfl, rfl, rfl, by decide +kernel, rfl, by decide +kernel, by decide +kernel⟩
def sp_l_berths_hold (K : PySem.W.Frag) : Sp := fun vs H Q _ => ∃ (v0 : V) (F0 : List Addr) (d0 : (Int × (List Int) × (Option Int))) (v1 : V) (d1 : (List (Int × Int))) (r : Bool), vs = [v0, v1] ∧ (yTup (sCons yInt (sCons (yLst yInt) (sOne (yOpt yInt))))).rep K H F0 v0 d0 ∧ (yFl (yTup (sCons yInt (sOne yInt)))).rep K H [] v1 d1 ∧ Mi.m_l_berths_hold d0 d1 = some r ∧ ∀ H', Chg ([]) H H' → Q (.bl r) H'
theorem ok_l_berths_hold (B : Bi mg) (CN : Cs K mg) (D : Dfn K mg "_law_berths_hold" s_l_berths_hold) (C_l_int : Cal P w K mg "_law_int" ["_law_x"] 1 (sp_l_int K)) (C_l_numbers_hold : Cal P w K mg "_law_numbers_hold" ["_law_spans_here", "_law_numbers"] 3 (sp_l_numbers_hold K)) (C_l_many : Cal P w K mg "_law_many" ["_law_spans_here", "_law_hour"] 1 (sp_l_many K)) : Cal P w K mg "_law_berths_hold" ["_law_told", "_law_spans_here"] 4 (sp_l_berths_hold K) := by
 obtain ⟨f, fd, F, g⟩ := D.ex
 refine ⟨f, fd, g, F.kp, bindsF F (fun _ _ _ _ _ _ us hl => match us, hl with | [_, _], _ => rfl), fun base => F.ok sc_l_berths_hold (fun vs H Q E h => ?_) (fun cdv A outer s H0 vs Q E hr h => ?_)⟩
 · obtain ⟨v0, F0, d0, v1, d1, r, rfl, r0, r1, hm, hQ⟩ := h; rfl
 ·
   obtain ⟨v0, F0, d0, v1, d1, r, rfl, r0, r1, hm, hQ⟩ := h
   refine ⟨_, pss_cons (ps_if (PW.pt (pw_or (pt_not (pt_val (pe_callB (cl_isi (K := K)) (by rfl) B.isinstance (by decide +kernel) (pa_cons (pv 0) (pa_cons (pe_bltn (v := .ty "tuple") (by rfl) B.tuple (by decide +kernel) rfl) pa_nil))))) (pw_or (pt_cmpR op_ne (pe_callB (cl_len (K := K)) (by rfl) B.len PySem.boot_len (pa_cons (pv 0) pa_nil)) pe_int (nomark _)) (pw_or1 (pt_not (pt_val (pe_cc C_l_int hr (pa_cons (pe_ix (ix_t (K := K)) (pv 0) pe_int (fun _ _ => rfl)) pa_nil)))))))) (pss_cons (ps_ret pe_bl) pss_nil) (pss_nil))
     (pss_cons (ps_if (pt_not (pt_val (pe_cc C_l_numbers_hold hr (pa_cons (pv 1) (pa_cons (pe_ix (ix_t (K := K)) (pv 0) pe_int (fun _ _ => rfl)) pa_nil))))) (pss_cons (ps_ret pe_bl) pss_nil) (pss_nil))
     (pss_cons (ps_if (pt_cmpR op_eq (pe_callB (cl_len (K := K)) (by rfl) B.len PySem.boot_len (pa_cons (pv 1) pa_nil)) pe_int (nomark _)) (pss_cons (ps_ret (pe_and (pe_cmpR op_eq (pe_ix (ix_t (K := K)) (pv 0) pe_int (fun _ _ => rfl)) pe_int (nomark _)) (pe_one (pe_cmpR op_isN1 (pe_ix (ix_t (K := K)) (pv 0) pe_int (fun _ _ => rfl)) pe_non (nomark _))))) pss_nil) (pss_nil))
     (pss_cons (ps_if (PW.pt (pw_or (pt_cmpR op_ne (pe_ix (ix_t (K := K)) (pv 0) pe_int (fun _ _ => rfl)) (pe_op op_add (pe_callB (cl_maxL (K := K) rfl) (by rfl) B.max (by decide +kernel) (pa_cons (pe_ix (ix_t (K := K)) (pv 0) pe_int (fun _ _ => rfl)) pa_nil)) pe_int) (nomark _)) (pw_or (pt_not (pt_val (pe_cc C_l_int hr (pa_cons (pe_ix (ix_t (K := K)) (pv 0) pe_int (fun _ _ => rfl)) pa_nil)))) (pw_or1 (pt_cmpR op_ne (pe_cc C_l_many hr (pa_cons (pv 1) (pa_cons (pe_ix (ix_t (K := K)) (pv 0) pe_int (fun _ _ => rfl)) pa_nil))) (pe_ix (ix_t (K := K)) (pv 0) pe_int (fun _ _ => rfl)) (nomark _)))))) (pss_cons (ps_ret pe_bl) pss_nil) (pss_nil))
     (pss_cons (ps_for PassesOwn.never rfl (pi_list (pv 1)) (pg_name (i := 2) sc_l_berths_hold.nd rfl (.inl rfl)) (pss_cons (ps_set (i := 3) sc_l_berths_hold.nd rfl (.inl rfl) (pe_cc C_l_many hr (pa_cons (pv 1) (pa_cons (pe_ix (ix_t (K := K)) (pv 2) pe_int (fun _ _ => rfl)) pa_nil))))
     (pss_cons (ps_if (PW.pt (pw_or (pt_cmpR op_gt (pv 3) (pe_ix (ix_t (K := K)) (pv 0) pe_int (fun _ _ => rfl)) (nomark _)) (pw_or1 (PW.pt (pw_and (pt_cmpR op_eq (pv 3) (pe_ix (ix_t (K := K)) (pv 0) pe_int (fun _ _ => rfl)) (nomark _)) (pw_and1 (pt_cmpR op_lt (pe_ix (ix_t (K := K)) (pv 2) pe_int (fun _ _ => rfl)) (pe_ix (ix_t (K := K)) (pv 0) pe_int (fun _ _ => rfl)) (nomark _)))))))) (pss_cons (ps_ret pe_bl) pss_nil) (pss_nil))
     (pss_nil))))
     (pss_cons (ps_ret (pe_cmpR (op_in_q (K := K)) (pe_ix (ix_t (K := K)) (pv 0) pe_int (fun _ _ => rfl)) (pe_lc (own := [("_law_span", 2)]) rfl sc_l_berths_hold.nd (pi_list (pv 1)) (blkOk_by (own := [("_law_span", 2)]) (N := N_l_berths_hold) (sc := defScope s_l_berths_hold) (by decide +kernel)) (fun _ _ _ _ _ => (pg_name (i := 2) sc_l_berths_hold.nd rfl (.inl rfl))) (fun _ _ _ _ _ => pts_nil) (fun _ _ _ _ _ => (pe_ix (ix_t (K := K)) (pv 2) pe_int (fun _ _ => rfl)))) (by rfl))) pss_nil))))), ?_⟩
   have c0 : Chg ([] : List Addr) H0 H0 := Chg.refl H0
   unfold Mi.m_l_berths_hold at hm
   refine q_ifS ?_
   obtain ⟨b3, hb3, hm⟩ := Mi.bnd hm
   refine j_tt b3 (R := fun H' => Chg ([] : List Addr) H0 H' ∧ (yTup (sCons yInt (sCons (yLst yInt) (sOne (yOpt yInt))))).rep K H' F0 v0 d0 ∧ (yFl (yTup (sCons yInt (sOne yInt)))).rep K H' [] v1 d1) (fun Q' kq => ?_) (fun H' hj => ?_)
   ·
     refine w_or ?_
     refine c_ans (ans_N (ans_B (val_isi (val_var rfl) (ty_tup r0) (n := "tuple") (m := "tuple") (b := true) (by decide +kernel)))) ?_
     refine c_if (fun hb => ?_) (fun hb => ?_)
     ·
       replace hb3 := Mi.ifT hb hb3
       obtain rfl := Option.some.inj hb3
       exact kq _ ⟨c0, r0, r1⟩
     replace hb3 := Mi.ifF hb hb3
     refine w_or ?_
     refine c_ans (ans_t (val_neI (val_lenU (n := 3) (lens_cons (lens_cons lens_one)) r0 (val_var rfl)) val_c)) ?_
     refine c_if (fun hb => ?_) (fun hb => ?_)
     ·
       replace hb3 := Mi.ifT hb hb3
       obtain rfl := Option.some.inj hb3
       exact kq _ ⟨c0, r0, r1⟩
     replace hb3 := Mi.ifF hb hb3
     refine w_not ?_
     refine w_B ?_
     refine w_call ?_
     obtain ⟨u4, F5, r6, su7, kx8, ku9⟩ := itm_tup (n := 0) at0 r0
     obtain ⟨rfl, rfl⟩ := r6
     refine w_args (va_cons (ku9 (val_var rfl) val_c) va_nil) ?_
     obtain ⟨q10, hq10, hb3⟩ := Mi.bnd hb3
     refine Or.inl ⟨d0.1, q10, rfl, hq10, fun H12 c11  => ?_⟩
     have r0 := Ty.ex r0 c11
     have r1 := Ty.fz r1 c11
     have c0 := c0.trans c11.none
     refine ⟨_, rfl, ?_⟩
     obtain rfl := Option.some.inj hb3
     exact kq _ ⟨c0, r0, r1⟩
   obtain ⟨c0, r0, r1⟩ := hj
   refine c_if (fun hb => ?_) (fun hb => ?_)
   ·
     replace hm := Mi.ifT hb hm
     refine q_ret ?_
     refine c_val val_c ?_
     obtain rfl := Option.some.inj hm
     exact hQ _ c0 
   replace hm := Mi.ifF hb hm
   refine w_fall ?_
   refine q_ifS ?_
   refine w_not ?_
   refine w_B ?_
   refine w_call ?_
   obtain ⟨u13, F14, r15, su16, kx17, ku18⟩ := itm_tup (n := 1) (atS at0) r0
   refine w_args (va_cons (val_var rfl) (va_cons (ku18 (val_var rfl) val_c) va_nil)) ?_
   obtain ⟨q19, hq19, hm⟩ := Mi.bnd hm
   refine ⟨v1, d1, u13, F14, d0.2.1, q19, rfl, r1, r15, hq19, fun H21 c20  => ?_⟩
   have r0 := Ty.ex r0 c20
   have r1 := Ty.fz r1 c20
   have c0 := c0.trans c20.none
   refine ⟨_, rfl, ?_⟩
   refine c_if (fun hb => ?_) (fun hb => ?_)
   ·
     replace hm := Mi.ifT hb hm
     refine q_ret ?_
     refine c_val val_c ?_
     obtain rfl := Option.some.inj hm
     exact hQ _ c0 
   replace hm := Mi.ifF hb hm
   refine w_fall ?_
   refine q_if (ans_t (val_eqI (val_lenF r1 (val_var rfl)) val_c)) (fun hb => ?_) (fun hb => ?_)
   ·
     replace hm := Mi.ifT hb hm
     refine q_ret ?_
     obtain ⟨u22, F23, r24, su25, kx26, ku27⟩ := itm_tup (n := 0) at0 r0
     obtain ⟨rfl, rfl⟩ := r24
     obtain ⟨u29, F30, r31, su32, kx33, ku34⟩ := itm_tup (n := 2) (atS (atS at1)) r0
     have er31 := (fz_opt fz_int) r31; subst er31
     refine c_val (val_andV (val_eqI (ku27 (val_var rfl) val_c) val_c) (fun _ => (val_isN r31 (ku34 (val_var rfl) val_c)))) ?_
     obtain rfl := Option.some.inj hm
     exact hQ _ c0 
   replace hm := Mi.ifF hb hm
   refine w_fall ?_
   refine q_ifS ?_
   obtain ⟨b35, hb35, hm⟩ := Mi.bnd hm
   refine j_tt b35 (R := fun H' => Chg ([] : List Addr) H0 H' ∧ (yTup (sCons yInt (sCons (yLst yInt) (sOne (yOpt yInt))))).rep K H' F0 v0 d0 ∧ (yFl (yTup (sCons yInt (sOne yInt)))).rep K H' [] v1 d1) (fun Q' kq => ?_) (fun H' hj => ?_)
   ·
     refine w_or ?_
     refine w_test ?_
     refine w_op ?_
     obtain ⟨u36, F37, r38, su39, kx40, ku41⟩ := itm_tup (n := 0) at0 r0
     obtain ⟨rfl, rfl⟩ := r38
     refine c_val (ku41 (val_var rfl) val_c) ?_
     refine w_op ?_
     refine w_cb ?_
     obtain ⟨u42, F43, r44, su45, kx46, ku47⟩ := itm_tup (n := 1) (atS at0) r0
     refine w_args (va_cons (ku47 (val_var rfl) val_c) va_nil) ?_
     obtain ⟨x48, hx48, hb35⟩ := Mi.bnd hb35
     refine w_maxL r44 hx48 ?_
     refine c_val val_c ?_
     refine w_I0 ?_
     refine w_neI ?_
     refine ⟨_, rfl, ?_⟩
     refine c_if (fun hb => ?_) (fun hb => ?_)
     ·
       replace hb35 := Mi.ifT hb hb35
       obtain rfl := Option.some.inj hb35
       exact kq _ ⟨c0, r0, r1⟩
     replace hb35 := Mi.ifF hb hb35
     refine w_or ?_
     refine w_not ?_
     refine w_B ?_
     refine w_call ?_
     obtain ⟨u49, F50, r51, su52, kx53, ku54⟩ := itm_tup (n := 2) (atS (atS at1)) r0
     have er51 := (fz_opt fz_int) r51; subst er51
     refine w_args (va_cons (ku54 (val_var rfl) val_c) va_nil) ?_
     obtain ⟨q55, hq55, hb35⟩ := Mi.bnd hb35
     refine Or.inr (⟨u49, d0.2.2, q55, rfl, r51, hq55, fun H57 c56  => ?_⟩)
     have r0 := Ty.ex r0 c56
     have r1 := Ty.fz r1 c56
     have c0 := c0.trans c56.none
     refine ⟨_, rfl, ?_⟩
     refine c_if (fun hb => ?_) (fun hb => ?_)
     ·
       replace hb35 := Mi.ifT hb hb35
       obtain rfl := Option.some.inj hb35
       exact kq _ ⟨c0, r0, r1⟩
     replace hb35 := Mi.ifF hb hb35
     refine w_test ?_
     refine w_op ?_
     refine w_call ?_
     obtain ⟨u58, F59, r60, su61, kx62, ku63⟩ := itm_tup (n := 2) (atS (atS at1)) r0
     have er60 := (fz_opt fz_int) r60; subst er60
     refine w_args (va_cons (val_var rfl) (va_cons (ku63 (val_var rfl) val_c) va_nil)) ?_
     obtain ⟨x64, hx64, hb35⟩ := Mi.bnd hb35
     obtain ⟨_, rfl⟩ := opt_int r60 hx64
     obtain ⟨q65, hq65, hb35⟩ := Mi.bnd hb35
     refine ⟨v1, d1, x64, q65, rfl, r1, hq65, fun H67 c66  => ?_⟩
     have r0 := Ty.ex r0 c66
     have r1 := Ty.fz r1 c66
     have c0 := c0.trans c66.none
     obtain ⟨u68, F69, r70, su71, kx72, ku73⟩ := itm_tup (n := 0) at0 r0
     obtain ⟨rfl, rfl⟩ := r70
     refine c_val (ku73 (val_var rfl) val_c) ?_
     refine w_neI ?_
     refine ⟨_, rfl, ?_⟩
     obtain rfl := Option.some.inj hb35
     exact kq _ ⟨c0, r0, r1⟩
   obtain ⟨c0, r0, r1⟩ := hj
   refine c_if (fun hb => ?_) (fun hb => ?_)
   ·
     replace hm := Mi.ifT hb hm
     refine q_ret ?_
     refine c_val val_c ?_
     obtain rfl := Option.some.inj hm
     exact hQ _ c0 
   replace hm := Mi.ifF hb hm
   refine w_fall ?_
   refine q_for ?_
   refine w_iList ?_
   refine c_val (val_var rfl) ?_
   obtain ⟨e74, he74, hm⟩ := Mi.bnd hm
   refine l_fl r1 (fun i σ' H' => ∃ (s75 : Unit) (y76 : Option V) (y77 : Option V), σ' = [some v0, some v1, y76, y77] ∧ Chg ([] : List Addr) H0 H' ∧ (yTup (sCons yInt (sCons (yLst yInt) (sOne (yOpt yInt))))).rep K H' F0 v0 d0 ∧ (yFl (yTup (sCons yInt (sOne yInt)))).rep K H' [] v1 d1 ∧ Mi.forR (Mi.m_l_berths_hold_b1 d0 d1) s75 (List.drop i d1) = some e74) ⟨(), none, none, rfl, c0, r0, r1, he74⟩ (fun i σ' H' hp => by obtain ⟨s75, y76, y77, rfl, c0, r0, r1, _⟩ := hp; exact r1) (fun i80 x79 u81 σ' H' hx78 r82 hp => ?_) (fun σ' H' hp => ?_)
   ·
     obtain ⟨s75, y76, y77, rfl, c0, r0, r1, hle74⟩ := hp
     obtain ⟨o83, hbe74, hore74⟩ := Mi.forR_go hle74 hx78
     unfold Mi.m_l_berths_hold_b1 at hbe74
     refine g_name (σ' := [some v0, some v1, some u81, y77]) rfl ?_
     refine q_asg ?_
     refine w_call ?_
     obtain ⟨u84, F85, r86, su87, kx88, ku89⟩ := itm_tup (n := 0) at0 r82
     obtain ⟨rfl, rfl⟩ := r86
     refine w_args (va_cons (val_var rfl) (va_cons (ku89 (val_var rfl) val_c) va_nil)) ?_
     obtain ⟨q90, hq90, hbe74⟩ := Mi.bnd hbe74
     refine ⟨v1, d1, x79.1, q90, rfl, r1, hq90, fun H92 c91  => ?_⟩
     have r0 := Ty.ex r0 c91
     have r1 := Ty.fz r1 c91
     have r82 := Ty.fz r82 c91
     have c0 := c0.trans c91.none
     refine g_name (σ' := [some v0, some v1, some u81, some (.int q90)]) rfl ?_
     obtain ⟨u93, F94, r95, su96, kx97, ku98⟩ := itm_tup (n := 0) at0 r0
     obtain ⟨rfl, rfl⟩ := r95
     obtain ⟨b121, hb121, hbe74⟩ := Mi.bnd hbe74
     refine q_if (ans_orO (ans_t (val_gt (val_var rfl) (ku98 (val_var rfl) val_c))) hb121 (fun hs99 => by (obtain ⟨u100, F101, r102, su103, kx104, ku105⟩ := itm_tup (n := 0) at0 r0; obtain ⟨rfl, rfl⟩ := r102; obtain ⟨b120, hb120, hs99⟩ := Mi.bnd hs99; cases hs99; exact (ans_andO (ans_t (val_eqI (val_var rfl) (ku105 (val_var rfl) val_c))) hb120 (fun hs106 => by (obtain ⟨u107, F108, r109, su110, kx111, ku112⟩ := itm_tup (n := 0) at0 r82; obtain ⟨rfl, rfl⟩ := r109; obtain ⟨u113, F114, r115, su116, kx117, ku118⟩ := itm_tup (n := 2) (atS (atS at1)) r0; have er115 := (fz_opt fz_int) r115; subst er115; obtain ⟨x119, hx119, hs106⟩ := Mi.bnd hs106; obtain ⟨_, rfl⟩ := opt_int r115 hx119; cases hs106; exact (ans_t (val_lt (ku112 (val_var rfl) val_c) (ku118 (val_var rfl) val_c))))))))) (fun hb => ?_) (fun hb => ?_)
     ·
       replace hbe74 := Mi.ifT hb hbe74
       refine q_ret ?_
       refine c_val val_c ?_
       obtain rfl := Option.some.inj hbe74
       obtain rfl := Mi.or_inl hore74
       obtain rfl := Option.some.inj (Mi.orR_inl hm)
       exact hQ _ c0 
     replace hbe74 := Mi.ifF hb hbe74
     refine w_fall ?_
     refine w_nextJ ?_
     obtain rfl := Option.some.inj hbe74
     replace hore74 := Mi.or_inr hore74
     exact ⟨_, (some u81), (some (.int q90)), rfl, c0, r0, r1, hore74⟩
   obtain ⟨s75, y76, y77, rfl, c0, r0, r1, hle74⟩ := hp
   obtain rfl := Mi.forR_end hle74
   replace hm := Mi.orR_inr hm
   refine q_ret ?_
   refine w_op ?_
   obtain ⟨u122, F123, r124, su125, kx126, ku127⟩ := itm_tup (n := 2) (atS (atS at1)) r0
   have er124 := (fz_opt fz_int) r124; subst er124
   refine c_val (ku127 (val_var rfl) val_c) ?_
   refine w_lc ?_
   refine w_iList ?_
   refine c_val (val_var rfl) ?_
   obtain ⟨e128, he128, hm⟩ := Mi.bnd hm
   refine kc_fl (K := K) (τ := yInt) r1 (fun D130 i H' => ∃ (s129 : (List Int)), Chg ([] : List Addr) H0 H' ∧ (yTup (sCons yInt (sCons (yLst yInt) (sOne (yOpt yInt))))).rep K H' F0 v0 d0 ∧ (yFl (yTup (sCons yInt (sOne yInt)))).rep K H' [] v1 d1 ∧ (yOpt yInt).rep K H' [] u122 d0.2.2 ∧ (yLst yInt).rep K H' [D130] (.ref D130) s129 ∧ Dj F0 [D130] ∧ (∀ a ∈ [D130], H0 a = none) ∧ Mi.forN (Mi.m_l_berths_hold_b2) s129 (List.drop i d1) = some e128) (fun D130 H137 np136 c135 r131 => ⟨([] : (List Int)), c0.trans c135.none, (Ty.ex r0 c135), (Ty.fz r1 c135), (Ty.fz r124 c135), r131, Ty.nin r0 np136, one_fresh (c0.dom D130 np136), he128⟩) (fun D130 i H' hp => by obtain ⟨s129, c0, r0, r1, r124, r131, d132, n134, _⟩ := hp; exact r1) (fun D130 i140 x139 u142 H141 hx138 r143 hp => ?_) (fun D130 H' np136 hp => ?_)
   ·
     obtain ⟨s129, c0, r0, r1, r124, r131, d132, n134, hle128⟩ := hp
     obtain ⟨_, hbe128, hle128⟩ := Mi.forN_go hle128 hx138
     unfold Mi.m_l_berths_hold_b2 at hbe128
     refine g_name (σ' := [some v0, some v1, some u142, y77]) rfl ?_
     refine ⟨rfl, ?_⟩
     refine w_yes ?_
     refine iteT ?_
     obtain ⟨u148, F149, r150, su151, kx152, ku153⟩ := itm_tup (n := 0) at0 r143
     obtain ⟨rfl, rfl⟩ := r150
     refine c_val (ku153 (val_var rfl) val_c) ?_
     obtain ⟨x154, hx154, hbe128⟩ := Mi.bnd hbe128
     refine e_app r131 yInt_i hx154 fun H156 c155 r131 => ?_
     have r0 := Ty.chg r0 c155 d132
     have r1 := Ty.fz r1 c155
     have r143 := Ty.fz r143 c155
     have r124 := Ty.fz r124 c155
     have c0 := c0.join c155 (fun a h => .inr (n134 a h))
     obtain rfl := Option.some.inj hbe128
     exact ⟨x154, c0, r0, r1, r124, r131, d132, n134, hle128⟩
   obtain ⟨s129, c0, r0, r1, r124, r131, d132, n134, hle128⟩ := hp
   obtain rfl := Mi.forN_end hle128
   obtain ⟨x157, hx157, hm⟩ := Mi.bnd hm
   obtain ⟨_, rfl⟩ := opt_int r124 hx157
   refine w_inL r131 ?_
   obtain rfl := Option.some.inj hm
   exact hQ _ c0 
abbrev s_law : Stmt := topS 14
theorem sc_law : FnScope ["_law_script", "_law_spans_here", "_law_others", "_law_rows", "_law_given", "_law_told"] ["_law_script"] (defScope s_law) := ⟨rfl, rfl, rfl, by decide +kernel, rfl, by decide +kernel, by decide +kernel⟩
def sp_law (K : PySem.W.Frag) (Pt : Addr) : Sp := fun vs H Q _ => ∃ (v0 : V) (d0 : (List Int)) (r : Bool), vs = [v0] ∧ yScr.rep K H [] v0 d0 ∧ (yTab Pt tqS).rep K H [Pt] (.ref Pt) () ∧ Mi.m_law d0 = some r ∧ ∀ H', Chg ([Pt]) H H' → (yTab Pt tqS).rep K H' [Pt] (.ref Pt) () → Q (.bl r) H'
theorem ok_law (B : Bi mg) (CN : Cs K mg) (D : Dfn K mg "law" s_law) {Pt : Addr} (C_berths : Cal P w K mg "berths" ["spans"] 2 (sp_berths K Pt)) (C_l_hand : Cal P w K mg "_law_hand" ["_law_script", "_law_k"] 1 (sp_l_hand K)) (C_l_spans : Cal P w K mg "_law_spans" ["_law_hand_here"] 2 (sp_l_spans K)) (C_l_berths_hold : Cal P w K mg "_law_berths_hold" ["_law_told", "_law_spans_here"] 4 (sp_l_berths_hold K)) : Cal P w K mg "law" ["_law_script"] 5 (sp_law K Pt) := by
 obtain ⟨f, fd, F, g⟩ := D.ex
 refine ⟨f, fd, g, F.kp, bindsF F (fun _ _ _ _ _ _ us hl => match us, hl with | [_], _ => rfl), fun base => F.ok sc_law (fun vs H Q E h => ?_) (fun cdv A outer s H0 vs Q E hr h => ?_)⟩
 · obtain ⟨v0, d0, r, rfl, r0, rT, hm, hQ⟩ := h; rfl
 ·
   obtain ⟨v0, d0, r, rfl, r0, rT, hm, hQ⟩ := h
   refine ⟨_, pss_cons (ps_set (i := 1) sc_law.nd rfl (.inl rfl) (pe_cc C_l_spans hr (pa_cons (pe_cc C_l_hand hr (pa_cons (pv 0) (pa_cons pe_int pa_nil))) pa_nil)))
     (pss_cons (ps_set (i := 2) sc_law.nd rfl (.inl rfl) (pe_cc C_l_spans hr (pa_cons (pe_cc C_l_hand hr (pa_cons (pv 0) (pa_cons pe_int pa_nil))) pa_nil)))
     (pss_cons (ps_for PassesOwn.never rfl (pi_list (pe_lst (pa_cons (pv 1) (pa_cons (pv 2) (pa_cons (pv 1) pa_nil))))) (pg_name (i := 3) sc_law.nd rfl (.inl rfl)) (pss_cons (ps_set (i := 4) sc_law.nd rfl (.inl rfl) (pe_callTy (cl_list (K := K)) (by rfl) B.list (by decide +kernel) (pa_cons (pv 3) pa_nil)))
     (pss_cons (ps_set (i := 5) sc_law.nd rfl (.inl rfl) (pe_cc C_berths hr (pa_cons (pv 4) pa_nil)))
     (pss_cons (ps_if (PW.pt (pw_or (pt_not (pt_val (pe_cc C_l_berths_hold hr (pa_cons (pv 5) (pa_cons (pv 3) pa_nil))))) (pw_or1 (pt_cmpR (op_ne_d hr.units) (pv 4) (pv 3) (nomark _))))) (pss_cons (ps_ret pe_bl) pss_nil) (pss_nil))
     (pss_cons (ps_expr (pe_bm PySem.F.plainAttrs_list PySem.F.slot_list_append PySem.F.type_list_append mt_append (pe_ix (ix_t (K := K)) (pv 5) pe_int (fun _ _ => rfl)) (pa_cons pe_int pa_nil)))
     (pss_nil))))))
     (pss_cons (ps_ret pe_bl) pss_nil))), ?_⟩
   have c0 : Chg ([Pt]) H0 H0 := Chg.refl H0
   unfold Mi.m_law at hm
   refine q_asg ?_
   refine w_call ?_
   refine w_cons ?_
   refine w_call ?_
   refine w_args (va_cons (val_var rfl) (va_cons val_c va_nil)) ?_
   obtain ⟨q2, hq2, hm⟩ := Mi.bnd hm
   refine ⟨v0, d0, (0 : Int), q2, rfl, r0, hq2, fun v5 H4 F7 c3 r6 fr8  => ?_⟩
   have d9 : Dj [Pt] F7 := Ty.fresh rT fr8
   have n10 : ∀ a ∈ F7, H0 a = none := fun a h => c0.dom a (fr8 a h)
   have r0 := Ty.fz r0 c3
   have rT := Ty.ex rT c3
   have c0 := c0.trans c3.none
   refine w_nil ?_
   obtain ⟨q11, hq11, hm⟩ := Mi.bnd hm
   refine ⟨v5, F7, q2, q11, rfl, r6, hq11, fun v14 H13 c12 r15 r6 => ?_⟩
   have r0 := Ty.fz r0 c12
   have rT := Ty.chg rT c12 d9
   have c0 := c0.join c12 (fun a h => .inr (n10 a h))
   refine g_name (σ' := [some v0, some v14, none, none, none, none]) rfl ?_
   refine q_asg ?_
   refine w_call ?_
   refine w_cons ?_
   refine w_call ?_
   refine w_args (va_cons (val_var rfl) (va_cons val_c va_nil)) ?_
   obtain ⟨q16, hq16, hm⟩ := Mi.bnd hm
   refine ⟨v0, d0, (1 : Int), q16, rfl, r0, hq16, fun v19 H18 F21 c17 r20 fr22  => ?_⟩
   have d23 : Dj [Pt] F21 := Ty.fresh rT fr22
   have n24 : ∀ a ∈ F21, H0 a = none := fun a h => c0.dom a (fr22 a h)
   have r0 := Ty.fz r0 c17
   have r15 := Ty.fz r15 c17
   have rT := Ty.ex rT c17
   have c0 := c0.trans c17.none
   refine w_nil ?_
   obtain ⟨q25, hq25, hm⟩ := Mi.bnd hm
   refine ⟨v19, F21, q16, q25, rfl, r20, hq25, fun v28 H27 c26 r29 r20 => ?_⟩
   have r0 := Ty.fz r0 c26
   have r15 := Ty.fz r15 c26
   have rT := Ty.chg rT c26 d23
   have c0 := c0.join c26 (fun a h => .inr (n24 a h))
   refine g_name (σ' := [some v0, some v14, some v28, none, none, none]) rfl ?_
   refine q_for ?_
   refine w_iList ?_
   refine w_lst ?_
   refine w_args (va_cons (val_var rfl) (va_cons (val_var rfl) (va_cons (val_var rfl) va_nil))) ?_
   refine e_lst (K := K) (τ := (yFl (yTup (sCons yInt (sOne yInt))))) (by exact Nat.le_of_ble_eq_true rfl) (.cons r15 (.cons r29 (.cons r15 .nil))) fun p30 H34 np33 c31 r32 => ?_
   have d35 : Dj [Pt] [p30] := Ty.nin rT np33
   have n36 : ∀ a ∈ [p30], H0 a = none := one_fresh (c0.dom p30 np33)
   have r0 := Ty.fz r0 c31
   have r15 := Ty.fz r15 c31
   have r29 := Ty.fz r29 c31
   have rT := Ty.ex rT c31
   have c0 := c0.trans c31.none
   obtain ⟨e37, he37, hm⟩ := Mi.bnd hm
   refine l_lst r32 (fun i σ' H' => ∃ (s38 : Unit) (y39 : Option V) (y40 : Option V) (y41 : Option V), σ' = [some v0, some v14, some v28, y39, y40, y41] ∧ Chg ([Pt]) H0 H' ∧ yScr.rep K H' [] v0 d0 ∧ (yFl (yTup (sCons yInt (sOne yInt)))).rep K H' [] v14 q11.1 ∧ (yFl (yTup (sCons yInt (sOne yInt)))).rep K H' [] v28 q25.1 ∧ (yLst (yFl (yTup (sCons yInt (sOne yInt))))).rep K H' [p30] (.ref p30) [q11.1, q25.1, q11.1] ∧ (yTab Pt tqS).rep K H' [Pt] (.ref Pt) () ∧ Mi.forR (Mi.m_law_b1) s38 (List.drop i [q11.1, q25.1, q11.1]) = some e37) ⟨(), none, none, none, rfl, c0, r0, r15, r29, r32, rT, he37⟩ (fun i σ' H' hp => by obtain ⟨s38, y39, y40, y41, rfl, c0, r0, r15, r29, r32, rT, _⟩ := hp; exact r32) (fun i44 x43 u45 σ' H' hx42 r46 hp => ?_) (fun σ' H' hp => ?_)
   ·
     obtain ⟨s38, y39, y40, y41, rfl, c0, r0, r15, r29, r32, rT, hle37⟩ := hp
     obtain ⟨o47, hbe37, hore37⟩ := Mi.forR_go hle37 hx42
     unfold Mi.m_law_b1 at hbe37
     refine g_name (σ' := [some v0, some v14, some v28, some u45, y40, y41]) rfl ?_
     refine q_asg ?_
     refine w_cb ?_
     refine w_args (va_cons (val_var rfl) va_nil) ?_
     refine w_listF r46 fun p48 H52 np51 c49 r50 => ?_
     have d53 : Dj [p30] [p48] := Ty.nin r32 np51
     have d54 : Dj [Pt] [p48] := Ty.nin rT np51
     have n55 : ∀ a ∈ [p48], H0 a = none := one_fresh (c0.dom p48 np51)
     have r0 := Ty.fz r0 c49
     have r15 := Ty.fz r15 c49
     have r29 := Ty.fz r29 c49
     have r46 := Ty.fz r46 c49
     have r32 := Ty.ex r32 c49
     have rT := Ty.ex rT c49
     have c0 := c0.trans c49.none
     refine g_name (σ' := [some v0, some v14, some v28, some u45, some (.ref p48), y41]) rfl ?_
     refine q_asg ?_
     refine w_call ?_
     refine w_args (va_cons (val_var rfl) va_nil) ?_
     obtain ⟨q56, hq56, hbe37⟩ := Mi.bnd hbe37
     have rT_old := rT
     refine ⟨(.ref p48), [p48], x43, q56, rfl, r50, rT, d54, hq56, fun v59 H58 F61 c57 r60 fr62 rT => ?_⟩
     have d63 : Dj [p48] F61 := Ty.fresh r50 fr62
     have d64 : Dj [p30] F61 := Ty.fresh r32 fr62
     have d65 : Dj [Pt] F61 := Ty.fresh rT_old fr62
     have n66 : ∀ a ∈ F61, H0 a = none := fun a h => c0.dom a (fr62 a h)
     have r0 := Ty.fz r0 c57
     have r15 := Ty.fz r15 c57
     have r29 := Ty.fz r29 c57
     have r46 := Ty.fz r46 c57
     have r50 := Ty.chg r50 c57 d54.symm
     have r32 := Ty.chg r32 c57 d35.symm
     have c0 := c0.join c57 (fun a h => .inl (h))
     refine g_name (σ' := [some v0, some v14, some v28, some u45, some (.ref p48), some v59]) rfl ?_
     refine q_ifS ?_
     obtain ⟨b67, hb67, hbe37⟩ := Mi.bnd hbe37
     refine j_tt b67 (R := fun H' => Chg ([Pt]) H0 H' ∧ yScr.rep K H' [] v0 d0 ∧ (yFl (yTup (sCons yInt (sOne yInt)))).rep K H' [] v14 q11.1 ∧ (yFl (yTup (sCons yInt (sOne yInt)))).rep K H' [] v28 q25.1 ∧ (yFl (yTup (sCons yInt (sOne yInt)))).rep K H' [] u45 x43 ∧ (yLst (yTup (sCons yInt (sOne yInt)))).rep K H' [p48] (.ref p48) x43 ∧ (yNd (yTup (sCons yInt (sCons (yLst yInt) (sOne (yOpt yInt)))))).rep K H' F61 v59 q56 ∧ (yLst (yFl (yTup (sCons yInt (sOne yInt))))).rep K H' [p30] (.ref p30) [q11.1, q25.1, q11.1] ∧ (yTab Pt tqS).rep K H' [Pt] (.ref Pt) ()) (fun Q' kq => ?_) (fun H' hj => ?_)
     ·
       refine w_or ?_
       refine w_not ?_
       refine w_B ?_
       refine w_call ?_
       refine w_args (va_cons (val_var rfl) (va_cons (val_var rfl) va_nil)) ?_
       obtain ⟨q68, hq68, hb67⟩ := Mi.bnd hb67
       refine ⟨v59, F61, q56, u45, x43, q68, rfl, r60.1, r46, hq68, fun H70 c69  => ?_⟩
       have r0 := Ty.fz r0 c69
       have r15 := Ty.fz r15 c69
       have r29 := Ty.fz r29 c69
       have r46 := Ty.fz r46 c69
       have r50 := Ty.ex r50 c69
       have r60 := Ty.ex r60 c69
       have r32 := Ty.ex r32 c69
       have rT := Ty.ex rT c69
       have c0 := c0.trans c69.none
       refine ⟨_, rfl, ?_⟩
       refine c_if (fun hb => ?_) (fun hb => ?_)
       ·
         replace hb67 := Mi.ifT hb hb67
         obtain rfl := Option.some.inj hb67
         exact kq _ ⟨c0, r0, r15, r29, r46, r50, r60, r32, rT⟩
       replace hb67 := Mi.ifF hb hb67
       refine w_test ?_
       refine w_op ?_
       refine c_val (val_var rfl) ?_
       refine c_val (val_var rfl) ?_
       refine w_neD2 (dat_lst (dat_tup (sat_cons dat_int (sat_one dat_int)))) (dat_fl (dat_tup (sat_cons dat_int (sat_one dat_int)))) (fun _ => rfl) r50 r46 ?_
       refine ⟨_, rfl, ?_⟩
       obtain rfl := Option.some.inj hb67
       exact kq _ ⟨c0, r0, r15, r29, r46, r50, r60, r32, rT⟩
     obtain ⟨c0, r0, r15, r29, r46, r50, r60, r32, rT⟩ := hj
     refine c_if (fun hb => ?_) (fun hb => ?_)
     ·
       replace hbe37 := Mi.ifT hb hbe37
       refine q_ret ?_
       refine c_val val_c ?_
       obtain rfl := Option.some.inj hbe37
       obtain rfl := Mi.or_inl hore37
       obtain rfl := Option.some.inj (Mi.orR_inl hm)
       exact hQ _ c0 rT
     replace hbe37 := Mi.ifF hb hbe37
     refine w_fall ?_
     obtain ⟨u71, u72, F73, F74, r75, r76, r77, s78, s79, d80⟩ := nd_t3 r60
     have d81 : Dj F73 [p48] := Dj.sub (d63.symm) s78
     have d82 : Dj F73 [p30] := Dj.sub (d64.symm) s78
     have d83 : Dj F73 [Pt] := Dj.sub (d65.symm) s78
     have n84 : ∀ a ∈ F73, H0 a = none := fun a h => n66 a (s78 a h)
     have er77 := (fz_opt fz_int) r77; subst er77
     obtain ⟨x87, hx87, hbe37⟩ := Mi.bnd hbe37
     refine q_drop (w_bm (c_val (val_rt (n := 1) r75 rfl (val_var rfl) val_c) ⟨tyv_lst r76, w_args (va_cons val_c va_nil) ?_⟩))
     refine m_app r76 yInt_i hx87 fun H86 c85 r76 => ?_
     have r0 := Ty.fz r0 c85
     have r15 := Ty.fz r15 c85
     have r29 := Ty.fz r29 c85
     have r46 := Ty.fz r46 c85
     have r50 := Ty.chg r50 c85 d81.symm
     have r88 := Ty.fz (tup_wk (wk_int (wk_cons wk_one)) r60.1) c85
     have r32 := Ty.chg r32 c85 d82.symm
     have rT := Ty.chg rT c85 d83.symm
     have r77 := Ty.fz r77 c85
     have r75 := Ty.fz r75 c85
     have c0 := c0.join c85 (fun a h => .inr (n84 a h))
     refine w_nextJ ?_
     obtain rfl := Option.some.inj hbe37
     replace hore37 := Mi.or_inr hore37
     exact ⟨_, (some u45), (some (.ref p48)), (some v59), rfl, c0, r0, r15, r29, r32, rT, hore37⟩
   obtain ⟨s38, y39, y40, y41, rfl, c0, r0, r15, r29, r32, rT, hle37⟩ := hp
   obtain rfl := Mi.forR_end hle37
   replace hm := Mi.orR_inr hm
   refine q_ret ?_
   refine c_val val_c ?_
   obtain rfl := Option.some.inj hm
   exact hQ _ c0 rT
end
end G
set_option maxHeartbeats 0
namespace G
open PySem PySem.Spec PyProof.Rows L2
theorem fun_of {K : PySem.W.Frag} {x q : Str} {st : Stmt} {f : Addr} {fd : FuncData} (F : FunD K x q (defArgs st) (defBody st) (defScope st) [] [] f fd) : Fun K x q st f fd := by
 obtain ⟨oc, od, dV, kV, doc, pm, an, cdv, ct, osl, e, lk, hcd, hd, _⟩ := F.ex
 rcases hd with ⟨_, rfl⟩ | ⟨z, _⟩
 · exact ⟨⟨oc, od, kV, doc, pm, an, cdv, ct, osl, e, lk, hcd⟩, F.kp⟩
 · exact absurd rfl z
def dOf (x : Str) (i : Nat) : He.DefD := ⟨(x, none), x, x, defArgs (topS i), defBody (topS i), defScope (topS i), [], []⟩
def fnL : List He.DefD := [dOf "overlap" 1, dOf "busy_hour" 2, dOf "berths" 3, dOf "_law_hand" 5, dOf "_law_pick" 6, dOf "_law_int" 7, dOf "_law_spans" 8, dOf "_law_meet" 9, dOf "_law_earlier" 10, dOf "_law_numbers_hold" 11, dOf "_law_many" 12, dOf "_law_berths_hold" 13, dOf "law" 14]
def faL : List He.Fa := [.glo "overlap", .glo "busy_hour", .glo "berths", .glo "_law_hand", .glo "_law_pick", .glo "_law_int", .glo "_law_spans", .glo "_law_meet", .glo "_law_earlier", .glo "_law_numbers_hold", .glo "_law_many", .glo "_law_berths_hold", .glo "law", .free "len", .free "range", .free "int", .free "bool", .free "isinstance", .free "max", .free "min", .free "list", .free "tuple", .free "sorted", .free "set", .free "enumerate", .free "zip", .free "reversed", .free "sum", .free "any", .free "all", .free "str"]
abbrev R : PySem.W.OpenRow := PySem.W.OpenLaw.row PySem.Challenge.rw_fogfleet_k42_berths
def exL (K : PySem.W.Frag) : Bool := true
def aL : List Addr := (List.range 1000).reverse
abbrev hk : PySem.W.Hook := hookTBL aL "berths" faL fnL exL
def ob (s : PySem.W.SharedT) : AlTB := obsTBL aL "berths" faL fnL exL (HandSHeadRun.getT s)
theorem ob_eq (s : PySem.W.SharedT) : ob s = hk.obs s.abs := obsTBL_eq (HandSHeadRun.getT_eq s)
def looseL : List Str := (["overlap", "busy_hour", "berths", "_law_hand", "_law_pick", "_law_int", "_law_spans", "_law_meet", "_law_earlier", "_law_numbers_hold", "_law_many", "_law_berths_hold"] : List Str)
theorem run (w : World) : HandSHeadRun.RunEq R (PySem.W.view R.prog [14]) hk ob 6000 looseL w := by
 intro os
 kernel_rfl
theorem dfn_of {K : PySem.W.Frag} {h : Heap} {mg : Str → Option Value} (X : K.In h) (G : h.Ns mainGlobals mg) (c : He.SaysD faL fnL K) (i j k : Nat) (x : Str) (hi : fnL[i]? = some (dOf x k)) (hj : faL[j]? = some (.glo x)) : Dfn K mg x (topS k) := by
 obtain ⟨fd, F⟩ := c.def_ i hi
 exact ⟨⟨_, fd, fun_of F, He.glo_ok X G (c.fact j hj)⟩⟩
theorem dfnT_of {K : PySem.W.Frag} {h : Heap} {mg : Str → Option Value} {x : Str} (X : K.In h) (G : h.Ns mainGlobals mg) (c : SaysTB faL fnL exL x K h) (i j k : Nat) (hi : fnL[i]? = some (dOf x k)) (hj : faL[j]? = some (.glo x)) : DfnT K mg x (topS k) (tabC K x).2 := by
 obtain ⟨fd, F⟩ := c.d.def_ i hi
 exact ⟨⟨_, fd, fun_of F, He.glo_ok X G (c.d.fact j hj), (tab_at X G c.t (fun_of F)).2.2⟩⟩
theorem facts {P : Program} {w : World} {K : PySem.W.Frag} {h : Heap} {mg : Str → Option Value} (X : K.In h) (G : h.Ns mainGlobals mg) (ct : SaysTB faL fnL exL "berths" K h) {fa : Addr} (hfa : mg ("law" : Str) = some (.ref fa)) :
   ∃ fd : FuncData, (∀ (s : Shared) (v : Value), BindsTo s fd ⟨[v], []⟩ [("_law_script", v)]) ∧ ∀ base : Heap, K.In base → base.Ns mainGlobals mg → FnOk P w K mg base CX0 5 fa fd ["_law_script"] (sp_law K (tabC K "berths").2) := by
 have c := ct.d
 have ce := ct.e
 have B : Bi mg := ⟨He.free_ok X G (c.fact 13 rfl), He.free_ok X G (c.fact 14 rfl), He.free_ok X G (c.fact 15 rfl), He.free_ok X G (c.fact 16 rfl), He.free_ok X G (c.fact 17 rfl), He.free_ok X G (c.fact 18 rfl), He.free_ok X G (c.fact 19 rfl), He.free_ok X G (c.fact 20 rfl), He.free_ok X G (c.fact 21 rfl), He.free_ok X G (c.fact 22 rfl), He.free_ok X G (c.fact 23 rfl), He.free_ok X G (c.fact 24 rfl), He.free_ok X G (c.fact 25 rfl), He.free_ok X G (c.fact 26 rfl), He.free_ok X G (c.fact 27 rfl), He.free_ok X G (c.fact 28 rfl), He.free_ok X G (c.fact 29 rfl), He.free_ok X G (c.fact 30 rfl)⟩
 have CN : Cs K mg := ⟨trivial⟩
 have C_overlap : Cal P w K mg "overlap" ["one", "other"] 1 (sp_overlap K) := ok_overlap B CN (dfn_of X G c 0 0 1 "overlap" rfl rfl)
 have C_busy_hour : Cal P w K mg "busy_hour" ["spans", "count"] 1 (sp_busy_hour K) := ok_busy_hour B CN (dfn_of X G c 1 1 2 "busy_hour" rfl rfl)
 have C_berths : Cal P w K mg "berths" ["spans"] 2 (sp_berths K (tabC K "berths").2) := ok_berths B CN (dfnT_of X G ct 2 2 3 rfl rfl) C_overlap C_busy_hour
 have C_l_hand : Cal P w K mg "_law_hand" ["_law_script", "_law_k"] 1 (sp_l_hand K) := ok_l_hand B CN (dfn_of X G c 3 3 5 "_law_hand" rfl rfl)
 have C_l_pick : Cal P w K mg "_law_pick" ["_law_hand_here", "_law_size"] 1 (sp_l_pick K) := ok_l_pick B CN (dfn_of X G c 4 4 6 "_law_pick" rfl rfl)
 have C_l_int : Cal P w K mg "_law_int" ["_law_x"] 1 (sp_l_int K) := ok_l_int B CN (dfn_of X G c 5 5 7 "_law_int" rfl rfl)
 have C_l_spans : Cal P w K mg "_law_spans" ["_law_hand_here"] 2 (sp_l_spans K) := ok_l_spans B CN (dfn_of X G c 6 6 8 "_law_spans" rfl rfl) C_l_pick
 have C_l_meet : Cal P w K mg "_law_meet" ["_law_one", "_law_other"] 1 (sp_l_meet K) := ok_l_meet B CN (dfn_of X G c 7 7 9 "_law_meet" rfl rfl)
 have C_l_earlier : Cal P w K mg "_law_earlier" ["_law_spans_here", "_law_k"] 2 (sp_l_earlier K) := ok_l_earlier B CN (dfn_of X G c 8 8 10 "_law_earlier" rfl rfl) C_l_meet
 have C_l_numbers_hold : Cal P w K mg "_law_numbers_hold" ["_law_spans_here", "_law_numbers"] 3 (sp_l_numbers_hold K) := ok_l_numbers_hold B CN (dfn_of X G c 9 9 11 "_law_numbers_hold" rfl rfl) C_l_int C_l_earlier
 have C_l_many : Cal P w K mg "_law_many" ["_law_spans_here", "_law_hour"] 1 (sp_l_many K) := ok_l_many B CN (dfn_of X G c 10 10 12 "_law_many" rfl rfl)
 have C_l_berths_hold : Cal P w K mg "_law_berths_hold" ["_law_told", "_law_spans_here"] 4 (sp_l_berths_hold K) := ok_l_berths_hold B CN (dfn_of X G c 11 11 13 "_law_berths_hold" rfl rfl) C_l_int C_l_numbers_hold C_l_many
 have C_law : Cal P w K mg "law" ["_law_script"] 5 (sp_law K (tabC K "berths").2) := ok_law B CN (dfn_of X G c 12 12 14 "law" rfl rfl) C_berths C_l_hand C_l_spans C_l_berths_hold
 exact fn_law hfa C_law
theorem tabE {K : PySem.W.Frag} {h : Heap} {mg : Str → Option Value} (X : K.In h) (G : h.Ns mainGlobals mg) (c : SaysTB faL fnL exL "berths" K h) : K.lookup (tabC K "berths").2 = none ∧ ∀ h : Heap, K.In h → PySem.W.CodeHd h (tabC K "berths").1 (tabC K "berths").2 := by
 obtain ⟨fd, F⟩ := c.d.def_ (d := dOf "berths" 3) 2 rfl
 have F' : Fun K "berths" "berths" (topS 3) (He.ga K "berths") fd := fun_of F
 have z := tab_at (h0 := h) (mg := mg) X G c.t F'
 exact ⟨z.1, z.2.1⟩
end G
open PySem PySem.W PySem.Calls PyProof.Rows
theorem PySem.Challenge.cw_fogfleet_k42_berths_holds : PySem.Challenge.rw_fogfleet_k42_berths.Holds := by
  w_on; o_law
  refine HandSHeadRun.head_any (r := OpenLaw.row PySem.Challenge.rw_fogfleet_k42_berths) (q := view (OpenLaw.row PySem.Challenge.rw_fogfleet_k42_berths).prog [14]) (H := G.hk) (ob := G.ob) (M := 6000) (loose := G.looseL) (d := HandSHeadRun.topDef (OpenLaw.row PySem.Challenge.rw_fogfleet_k42_berths).prog 14) (kwd := []) G.ob_eq
    (by kernel_rfl) (fun s => by kernel_rfl) G.run (by kernel_rfl) (by kernel_rfl) (by kernel_rfl) (by rfl) (by first | assumption | decide +kernel) (by decide +kernel) ⟨rfl, rfl, rfl, rfl, rfl, by decide +kernel⟩ ?hw ?hc
  case hw => w_witness2
  case hc =>
    refine LamX.walk_ofTsE (l := PySem.Challenge.rw_fogfleet_k42_berths) (n := 63) (k := 5) (x := "_law_script") (CX := fun _ => L2.CX0) rfl (by decide) (by kernel_rfl) ⟨rfl, by decide, by decide⟩ ?F (fun _ _ _ _ _ z => z)
    intro w mg fa h Y G0 hmg0
    obtain ⟨K, KX, c⟩ := Y
    have hmg : mg ("law" : PySem.Str) = some (.ref fa) := by
      have e : (HandSHeadRun.topDef (OpenLaw.row PySem.Challenge.rw_fogfleet_k42_berths).prog 14).name = ("law" : PySem.Str) := by kernel_rfl
      rw [← e]
      exact hmg0
    obtain ⟨fd, hb, hF⟩ := G.facts (P := (PySem.Challenge.rw_fogfleet_k42_berths).prog) (w := w) KX G0 c hmg
    have T := G.tabE KX G0 c
    refine ⟨K, KX, fd, [G.tabC K "berths"], G.spScr (G.sp_law K (G.tabC K "berths").2), fun p hp => ?_, fun p hp => ?_, fun p hp => ?_, hb, fun H a ns hl _ hT hS => ?_, fun base hI hN _ => G.fn_script (hF base hI hN)⟩
    · rw [List.mem_singleton.mp hp]; exact G.tab0_ok c.z
    · rw [List.mem_singleton.mp hp]; exact T.1
    · rw [List.mem_singleton.mp hp]; exact T.2 _ KX
    · exact G.spScr_of hS fun H2 h2 r => ⟨_, ns, true, rfl, r, ⟨rfl, rfl, G.TabF.nil (h2 _ _ (hT _ (List.mem_singleton.mpr rfl)))⟩, Mi.law_true ns hl, fun _ _ _ => rfl⟩

