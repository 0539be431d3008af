import PyProof.Rows.All
import Wide.All
import OpenK.AllK
import Wide.FinOn
import HandS.ForMost
import HandS.Codes
import HandS.TupLe
import KE.SortData
import KE.GoesNew
import HandS.More
import HandS.Exc
import HandS.ExcOwn
import HandS.WordsExc
import HandS.TryOnly
import HandS.ExcInit
import HandS.ExcField
import HandS.Defaults
import HandS.IsInst
import HandS.FStr
import HandS.TupLen
import HandS.NoneIn
import HandS.OwnEq
import HandS.Replace
import HandS.DictComp
import HandS.Wide
import HandS.Walk
import KE.KStateDown
import HandS.Head0
import HandS.Head1
import HandS.Head2
import HandS.HeadEnd
import HandS.HeadHook1
import HandS.HeadHook2
import HandS.HeadHook3
import HandS.HeadHook4
import PySem.Challenge.RW_unmetcells_k03_whole_texts_of_books_and
set_option Elab.async false
set_option linter.all false
set_option maxRecDepth 100000
set_option maxHeartbeats 0
/-! The plain law: texts, their parts, digits, ways, entries. No program here. -/
namespace K3
open PySem
abbrev tl (x : Str) : List Nat := TL.tl x
abbrev S (l : List Nat) : Str := SX.S l
theorem tl_S (l : List Nat) : tl (S l) = l := TL.tl_mk l
theorem str_ext {x y : Str} (h : tl x = tl y) : x = y := TL.ext_tl h
theorem str_iff {x : Str} {l : List Nat} : x = S l ↔ tl x = l := ⟨fun h => by rw [h, tl_S], fun h => str_ext (by rw [h, tl_S])⟩
theorem len_tl (x : Str) : x.length = (tl x).length := TL.len_tl x
/-! ### split and join by one sign -/
theorem pre_one (s c : Nat) (r : List Nat) : TL.pre [s] (c :: r) = (c == s) := by
  unfold TL.pre
  simp
theorem spl_ne (s : Nat) : ∀ (l acc : List Nat), TL.spl [s] 0 acc l ≠ []
  | [], acc => by rw [TL.spl_nil]; simp
  | c :: r, acc => by
    by_cases h : c = s
    · rw [TL.spl_hit (by rw [pre_one]; simp [h])]; simp
    · rw [TL.spl_miss (by rw [pre_one]; simp [h])]
      exact spl_ne s r _
theorem joinL_cons {S p : List Nat} : ∀ {q : List (List Nat)}, q ≠ [] → TL.joinL S (p :: q) = p ++ (S ++ TL.joinL S q)
  | [], h => absurd rfl h
  | _ :: _, _ => rfl
theorem join_spl (s : Nat) : ∀ (l acc : List Nat), TL.joinL [s] (TL.spl [s] 0 acc l) = acc ++ l
  | [], acc => by rw [TL.spl_nil]; simp [TL.joinL]
  | c :: r, acc => by
    by_cases h : c = s
    · rw [TL.spl_hit (by rw [pre_one]; simp [h])]
      have e : ([s] : List Nat).length - 1 = 0 := rfl
      rw [e, joinL_cons (spl_ne s r []), join_spl s r []]
      simp [h]
    · rw [TL.spl_miss (by rw [pre_one]; simp [h]), join_spl s r]
      simp
def parts (z : Str) (s : Nat) : List Str := Txt.split z (S [s])
theorem kind_of {z : Str} {s : Nat} (h : s < 256) : ¬ Builtin.Str.strKind z < Builtin.Str.strKind (S [s]) := TL.kind_ok (by simp [h])
theorem parts_tl {s : Nat} (h : s < 256) (z : Str) : (parts z s).map tl = TL.spl [s] 0 [] (tl z) := by
  have e := TL.split_spl z (S [s]) (by rw [show TL.tl (S [s]) = [s] from tl_S _]; simp) (kind_of h)
  rw [show TL.tl (S [s]) = [s] from tl_S _] at e
  exact e
theorem parts_join {s : Nat} (h : s < 256) (z : Str) : TL.joinL [s] ((parts z s).map tl) = tl z := by
  rw [parts_tl h, join_spl, List.nil_append]
theorem parts_ne {s : Nat} (h : s < 256) (z : Str) : parts z s ≠ [] := fun e => by
  have q := parts_tl h z
  rw [e] at q
  exact spl_ne s _ _ q.symm
/-- a text is what it is joined of -/
theorem parts_of {s : Nat} (hs : s < 256) {z : Str} {ps : List (List Nat)} (h : tl z = TL.joinL [s] ps) (hne : ps ≠ []) (hf : ∀ p ∈ ps, s ∉ p) : parts z s = ps.map S := by
  refine TL.map_tl_inj ?_
  rw [parts_tl hs, h, TL.spl_join hne hf]
  exact (SX.map_S_tl ps).symm
/-- all signs of a text and its parts -/
def wt (ps : List Str) : Nat := (ps.map fun p => p.length + 1).sum
theorem wt_join (s : Nat) : ∀ ps : List Str, ps ≠ [] → (TL.joinL [s] (ps.map tl)).length + 1 = wt ps
  | [], h => absurd rfl h
  | [p], _ => by
    show (tl p).length + 1 = _
    simp [wt, len_tl]
  | p :: q :: r, _ => by
    show (tl p ++ ([s] ++ TL.joinL [s] ((q :: r).map tl))).length + 1 = _
    have ih := wt_join s (q :: r) (by simp)
    have e : wt (p :: q :: r) = p.length + 1 + wt (q :: r) := by simp [wt]
    rw [e, ← ih, List.length_append, List.length_append, len_tl]
    simp only [List.length_cons, List.length_nil]
    omega
theorem wt_parts {s : Nat} (h : s < 256) (z : Str) : wt (parts z s) = z.length + 1 := by
  rw [← wt_join s _ (parts_ne h z), parts_join h, len_tl]
theorem wt_cons (p : Str) (r : List Str) : wt (p :: r) = p.length + 1 + wt r := by simp [wt]
theorem wt_append (a b : List Str) : wt (a ++ b) = wt a + wt b := by simp [wt]
theorem wt_mem {p : Str} : ∀ {ps : List Str}, p ∈ ps → p.length + 1 ≤ wt ps
  | q :: r, h => by
    rw [wt_cons]
    rcases List.mem_cons.mp h with rfl | h
    · omega
    · have := wt_mem h
      omega
theorem wt_len : ∀ ps : List Str, ps.length ≤ wt ps
  | [] => Nat.zero_le _
  | p :: r => by
    rw [wt_cons, List.length_cons]
    have := wt_len r
    omega
theorem wt_take (ps : List Str) (n : Nat) : wt (ps.take n) ≤ wt ps := by
  have e := wt_append (ps.take n) (ps.drop n)
  rw [List.take_append_drop] at e
  omega
theorem wt_drop (ps : List Str) (n : Nat) : wt (ps.drop n) ≤ wt ps := by
  have e := wt_append (ps.take n) (ps.drop n)
  rw [List.take_append_drop] at e
  omega
theorem wt_set (x : Str) : ∀ (ps : List Str) (i : Nat), wt (ps.set i x) ≤ wt ps + (x.length + 1)
  | [], i => by simp [wt]
  | p :: r, 0 => by
    show wt (x :: r) ≤ _
    rw [wt_cons, wt_cons]
    omega
  | p :: r, i + 1 => by
    show wt (p :: r.set i x) ≤ _
    rw [wt_cons, wt_cons]
    have := wt_set x r i
    omega
theorem wt_sum (ps : List Str) : (ps.map (·.length)).sum + ps.length = wt ps := by
  induction ps with
  | nil => rfl
  | cons p r ih =>
    rw [wt_cons, ← ih, List.map_cons, List.sum_cons, List.length_cons]
    omega
/-- what join asks, and how long it becomes -/
theorem join_fit (s : Nat) {ps : List Str} {n : Nat} (h : wt ps ≤ n) : (ps.map (·.length)).sum + ps.length * (S [s]).length ≤ n := by
  rw [show (S [s]).length = 1 from SX.S_len _, Nat.mul_one, wt_sum]
  exact h
theorem join_len (s : Nat) (ps : List Str) : (Txt.join (S [s]) ps).length ≤ wt ps := by
  rw [TL.join_eq, len_tl, show tl (Str.join (S [s]) ps) = _ from TL.tl_join _ ps, show TL.tl (S [s]) = [s] from tl_S _]
  cases ps with
  | nil => simp [TL.joinL]
  | cons p r =>
    have e := wt_join s (p :: r) (by simp)
    show (TL.joinL [s] ((p :: r).map tl)).length ≤ _
    omega
/-! ### a number of one sign -/
def smallN (z : Str) (lo hi : Int) : Option Int :=
  match tl z with
  | [c] => if 48 ≤ c ∧ c ≤ 57 then (if (c : Int) - 48 < lo ∨ (c : Int) - 48 > hi then none else some ((c : Int) - 48)) else none
  | _ => none
/-- the sign of a figure -/
def dg (n : Int) : Nat := (48 + n).toNat
theorem smallN_some {z : Str} {lo hi n : Int} : smallN z lo hi = some n ↔ (lo ≤ n ∧ n ≤ hi) ∧ (0 ≤ n ∧ n ≤ 9) ∧ tl z = [dg n] := by
  unfold smallN dg
  constructor
  · intro h
    split at h
    · rename_i c e
      split at h
      · rename_i hc
        split at h
        · cases h
        · rename_i hr
          have e2 : (c : Int) - 48 = n := Option.some.inj h
          refine ⟨by omega, by omega, ?_⟩
          rw [e, ← e2]
          congr 1
          omega
      · cases h
    · cases h
  · rintro ⟨h1, h2, h3⟩
    rw [h3]
    show (if 48 ≤ (48 + n).toNat ∧ (48 + n).toNat ≤ 57 then _ else none) = some n
    rw [if_pos (by omega), if_neg (by omega)]
    congr 1
    omega
theorem dg_bounds {n : Int} (h : 0 ≤ n ∧ n ≤ 9) : 48 ≤ dg n ∧ dg n ≤ 57 := by
  unfold dg
  omega
theorem dg_inj {m n : Int} (h : 0 ≤ m) (h' : 0 ≤ n) (e : dg m = dg n) : m = n := by
  unfold dg at e
  omega
/-- str(n), one figure -/
theorem tl_fig {n : Int} (h : 0 ≤ n ∧ n ≤ 9) : TL.tl (Str.ofString (toString n)) = [dg n] := by
  obtain ⟨k, rfl⟩ : ∃ k : Nat, n = (k : Int) := ⟨n.toNat, by omega⟩
  rw [TL.tl_num, TL.numL_lt (by omega)]
  unfold dg
  congr 1
/-! ### the first line -/
def sizeT (s c : Int) : Str := S [98, 111, 111, 107, 32, dg s, 32, dg c]
def bookW : Str := S [98, 111, 111, 107]
def sizesOf (z : Str) : Option (Int × Int) :=
  match parts z 32 with
  | [w0, w1, w2] => if w0 = bookW then (match smallN w1 1 6, smallN w2 1 4 with
    | some s, some c => some (s, c)
    | _, _ => none) else none
  | _ => none
theorem dg_ne {n : Int} (h : 0 ≤ n ∧ n ≤ 9) {s : Nat} (hs : s < 48 ∨ 57 < s) : s ∉ [dg n] := fun q => by
  have b := dg_bounds h
  rw [List.mem_singleton] at q
  omega
theorem sizes_iff {z : Str} {s c : Int} : sizesOf z = some (s, c) ↔ ((1 ≤ s ∧ s ≤ 6) ∧ (1 ≤ c ∧ c ≤ 4)) ∧ z = sizeT s c := by
  constructor
  · intro h
    unfold sizesOf at h
    split at h
    · rename_i w0 w1 w2 e
      split at h
      · rename_i hb
        split at h
        · rename_i s' c' e1 e2
          cases h
          obtain ⟨a1, a2, a3⟩ := smallN_some.mp e1
          obtain ⟨b1, b2, b3⟩ := smallN_some.mp e2
          refine ⟨⟨a1, b1⟩, str_iff.mpr ?_⟩
          rw [← parts_join (by decide : 32 < 256) z, e, hb]
          show TL.joinL [32] [tl bookW, tl w1, tl w2] = _
          rw [a3, b3, bookW, tl_S]
          rfl
        · cases h
      · cases h
    · cases h
  · rintro ⟨⟨h1, h2⟩, rfl⟩
    have e : parts (sizeT s c) 32 = [bookW, S [dg s], S [dg c]] := by
      refine parts_of (by decide) (ps := [[98, 111, 111, 107], [dg s], [dg c]]) (by rw [sizeT, tl_S]; rfl) (by simp) ?_
      intro p hp
      simp only [List.mem_cons, List.not_mem_nil, or_false] at hp
      rcases hp with rfl | rfl | rfl
      · decide
      · exact dg_ne (by omega) (.inl (by decide))
      · exact dg_ne (by omega) (.inl (by decide))
    unfold sizesOf
    rw [e]
    show (if bookW = bookW then _ else none) = _
    rw [if_pos rfl, smallN_some.mpr ⟨h1, by omega, tl_S _⟩, smallN_some.mpr ⟨h2, by omega, tl_S _⟩]
/-! ### ways -/
structure Way where
  st : Int
  ca : Int
  an : Int
  nx : Int
  deriving DecidableEq
def Way.row (w : Way) : List Int := [w.st, w.ca, w.an, w.nx]
def Way.ok (s c : Int) (w : Way) : Prop := (0 ≤ w.st ∧ w.st < s) ∧ (0 ≤ w.ca ∧ w.ca < c) ∧ (0 ≤ w.an ∧ w.an < 3) ∧ (0 ≤ w.nx ∧ w.nx < s)
def Way.txt (w : Way) : Str := S [dg w.st, 32, dg w.ca, 32, dg w.an, 32, dg w.nx]
def wayOf (z : Str) (s c : Int) : Option Way :=
  match parts z 32 with
  | [w0, w1, w2, w3] => (match smallN w0 0 (s - 1), smallN w1 0 (c - 1), smallN w2 0 2, smallN w3 0 (s - 1) with
    | some a, some b, some d, some e => some ⟨a, b, d, e⟩
    | _, _, _, _ => none)
  | _ => none
theorem way_iff {z : Str} {s c : Int} {w : Way} (hs : s ≤ 6) (hc : c ≤ 4) : wayOf z s c = some w ↔ w.ok s c ∧ z = w.txt := by
  constructor
  · intro h
    unfold wayOf at h
    split at h
    · rename_i w0 w1 w2 w3 e
      split at h
      · rename_i a b d f e0 e1 e2 e3
        cases h
        obtain ⟨a1, a2, a3⟩ := smallN_some.mp e0
        obtain ⟨b1, b2, b3⟩ := smallN_some.mp e1
        obtain ⟨d1, d2, d3⟩ := smallN_some.mp e2
        obtain ⟨f1, f2, f3⟩ := smallN_some.mp e3
        refine ⟨⟨⟨a1.1, by show a < s; omega⟩, ⟨b1.1, by show b < c; omega⟩, ⟨d1.1, by show d < 3; omega⟩, ⟨f1.1, by show f < s; omega⟩⟩, str_iff.mpr ?_⟩
        rw [← parts_join (by decide : 32 < 256) z, e]
        show TL.joinL [32] [tl w0, tl w1, tl w2, tl w3] = _
        rw [a3, b3, d3, f3]
        rfl
      · cases h
    · cases h
  · rintro ⟨⟨h1, h2, h3, h4⟩, rfl⟩
    have e : parts w.txt 32 = [S [dg w.st], S [dg w.ca], S [dg w.an], S [dg w.nx]] := by
      refine parts_of (by decide) (ps := [[dg w.st], [dg w.ca], [dg w.an], [dg w.nx]]) (by rw [Way.txt, tl_S]; rfl) (by simp) ?_
      intro p hp
      simp only [List.mem_cons, List.not_mem_nil, or_false] at hp
      rcases hp with rfl | rfl | rfl | rfl <;> exact dg_ne (by omega) (.inl (by decide))
    unfold wayOf
    rw [e]
    show (match smallN (S [dg w.st]) 0 (s - 1), smallN (S [dg w.ca]) 0 (c - 1), smallN (S [dg w.an]) 0 2, smallN (S [dg w.nx]) 0 (s - 1) with
      | some a, some b, some d, some e => some (⟨a, b, d, e⟩ : Way)
      | _, _, _, _ => none) = _
    rw [smallN_some.mpr ⟨(by omega : 0 ≤ w.st ∧ w.st ≤ s - 1), by omega, tl_S _⟩, smallN_some.mpr ⟨(by omega : 0 ≤ w.ca ∧ w.ca ≤ c - 1), by omega, tl_S _⟩,
      smallN_some.mpr ⟨(by omega : 0 ≤ w.an ∧ w.an ≤ 2), by omega, tl_S _⟩, smallN_some.mpr ⟨(by omega : 0 ≤ w.nx ∧ w.nx ≤ s - 1), by omega, tl_S _⟩]
theorem txt_inj {s c s' c' : Int} {w v : Way} (hw : w.ok s c) (hv : v.ok s' c') (h : w.txt = v.txt) : w = v := by
  have e := SX.S_inj h
  obtain ⟨a1, a2, a3, a4⟩ := hw
  obtain ⟨b1, b2, b3, b4⟩ := hv
  obtain ⟨ws, wc, wa, wn⟩ := w
  obtain ⟨vs, vc, va, vn⟩ := v
  simp only [List.cons.injEq, true_and, and_true] at e
  obtain ⟨e1, e2, e3, e4⟩ := e
  dsimp only at a1 a2 a3 a4 b1 b2 b3 b4 e1 e2 e3 e4
  rw [dg_inj a1.1 b1.1 e1, dg_inj a2.1 b2.1 e2, dg_inj a3.1 b3.1 e3, dg_inj a4.1 b4.1 e4]
/-! ### the ways' order -/
def Way.key (w : Way) : Int := ((w.st * 10 + w.ca) * 10 + w.an) * 10 + w.nx
/-- figures alone -/
def Way.fig (w : Way) : Prop := (0 ≤ w.st ∧ w.st ≤ 9) ∧ (0 ≤ w.ca ∧ w.ca ≤ 9) ∧ (0 ≤ w.an ∧ w.an ≤ 9) ∧ (0 ≤ w.nx ∧ w.nx ≤ 9)
theorem Way.ok.fig {s c : Int} {w : Way} (h : w.ok s c) (hs : s ≤ 6) (hc : c ≤ 4) : w.fig := by
  obtain ⟨a1, a2, a3, a4⟩ := h
  exact ⟨by omega, by omega, by omega, by omega⟩
theorem key_inj {w v : Way} (hw : w.fig) (hv : v.fig) (h : w.key = v.key) : w = v := by
  obtain ⟨a1, a2, a3, a4⟩ := hw
  obtain ⟨b1, b2, b3, b4⟩ := hv
  obtain ⟨ws, wc, wa, wn⟩ := w
  obtain ⟨vs, vc, va, vn⟩ := v
  unfold Way.key at h
  dsimp only at a1 a2 a3 a4 b1 b2 b3 b4 h
  obtain ⟨e1, e2, e3, e4⟩ : ws = vs ∧ wc = vc ∧ wa = va ∧ wn = vn := by omega
  rw [e1, e2, e3, e4]
theorem row_lt {w v : Way} (hw : w.fig) (hv : v.fig) : w.row < v.row ↔ w.key < v.key := by
  obtain ⟨a1, a2, a3, a4⟩ := hw
  obtain ⟨b1, b2, b3, b4⟩ := hv
  obtain ⟨ws, wc, wa, wn⟩ := w
  obtain ⟨vs, vc, va, vn⟩ := v
  unfold Way.key Way.row
  dsimp only at a1 a2 a3 a4 b1 b2 b3 b4 ⊢
  simp only [List.cons_lt_cons_iff, List.not_lt_nil, and_false, or_false]
  omega
theorem row_inj {w v : Way} (h : w.row = v.row) : w = v := by
  obtain ⟨ws, wc, wa, wn⟩ := w
  obtain ⟨vs, vc, va, vn⟩ := v
  unfold Way.row at h
  simp only [List.cons.injEq, and_true] at h
  obtain ⟨h1, h2, h3, h4⟩ := h
  rw [h1, h2, h3, h4]
/-- t <= u of two rows, as the rule tells it -/
theorem row_le {w v : Way} (hw : w.fig) (hv : v.fig) : Ob.lexAt (fun j => decide (w.row.getD j 0 = v.row.getD j 0)) (fun j => decide (w.row.getD j 0 ≤ v.row.getD j 0)) (decide (w.row.length ≤ v.row.length)) 0 (min w.row.length v.row.length) = decide (w.key ≤ v.key) := by
  obtain ⟨a1, a2, a3, a4⟩ := hw
  obtain ⟨b1, b2, b3, b4⟩ := hv
  obtain ⟨ws, wc, wa, wn⟩ := w
  obtain ⟨vs, vc, va, vn⟩ := v
  show (if decide (ws = vs) = true then (if decide (wc = vc) = true then (if decide (wa = va) = true then (if decide (wn = vn) = true then true else decide (wn ≤ vn)) else decide (wa ≤ va)) else decide (wc ≤ vc)) else decide (ws ≤ vs)) = _
  unfold Way.key
  dsimp only at a1 a2 a3 a4 b1 b2 b3 b4 ⊢
  by_cases e1 : ws = vs
  · by_cases e2 : wc = vc
    · by_cases e3 : wa = va
      · by_cases e4 : wn = vn
        · simp [e1, e2, e3, e4]
        · simp only [e1, e2, e3, e4, decide_true, decide_false, if_true]
          simp
      · simp only [e1, e2, e3, decide_true, decide_false, if_true]
        simp only [Bool.false_eq_true, if_false]
        exact decide_eq_decide.mpr (by omega)
    · simp only [e1, e2, decide_true, decide_false, if_true]
      simp only [Bool.false_eq_true, if_false]
      exact decide_eq_decide.mpr (by omega)
  · simp only [e1, decide_false]
    simp only [Bool.false_eq_true, if_false]
    exact decide_eq_decide.mpr (by omega)
/-! ### ascending ways -/
def Asc (ws : List Way) : Prop := (ws.map Way.key).Pairwise (· < ·)
theorem asc_len : ∀ (l : List Int) (lo n : Int), l.Pairwise (· < ·) → (∀ x ∈ l, lo ≤ x ∧ x < n) → l.length ≤ (n - lo).toNat
  | [], lo, n, _, _ => Nat.zero_le _
  | a :: r, lo, n, hp, hb => by
    obtain ⟨h1, h2⟩ := List.pairwise_cons.mp hp
    have ha := hb a (List.mem_cons_self ..)
    have ih := asc_len r (a + 1) n h2 fun x hx => ⟨by have := h1 x hx; omega, (hb x (List.mem_cons_of_mem _ hx)).2⟩
    rw [List.length_cons]
    omega
def Way.code (w : Way) : Int := ((w.st * 4 + w.ca) * 3 + w.an) * 6 + w.nx
theorem code_lt {s c : Int} {w v : Way} (hs : s ≤ 6) (hc : c ≤ 4) (hw : w.ok s c) (hv : v.ok s c) (h : w.key < v.key) : w.code < v.code := by
  obtain ⟨a1, a2, a3, a4⟩ := hw
  obtain ⟨b1, b2, b3, b4⟩ := hv
  unfold Way.key at h
  unfold Way.code
  omega
theorem ways_len {s c : Int} {ws : List Way} (hs : s ≤ 6) (hc : c ≤ 4) (h : ∀ w ∈ ws, w.ok s c) (ha : Asc ws) : ws.length ≤ 432 := by
  have h1 : (ws.map Way.code).Pairwise (· < ·) := by
    have h2 := List.pairwise_map.mp ha
    refine List.pairwise_map.mpr (List.Pairwise.imp_of_mem (fun {a b} ma mb hab => ?_) h2)
    exact code_lt hs hc (h a ma) (h b mb) hab
  have h3 := asc_len _ 0 432 h1 fun x hx => by
    obtain ⟨w, hw, rfl⟩ := List.mem_map.mp hx
    obtain ⟨a1, a2, a3, a4⟩ := h w hw
    unfold Way.code
    omega
  rw [List.length_map] at h3
  exact h3
/-- two ascending rows of the same ways are one -/
theorem sorted_uniq : ∀ {l m : List Int}, l.Pairwise (· ≤ ·) → m.Pairwise (· ≤ ·) → l.Perm m → l = m
  | [], m, _, _, h => (List.Perm.eq_nil h.symm).symm
  | x :: l, [], _, _, h => absurd h.length_eq (by simp)
  | x :: l, y :: m, hl, hm, h => by
    obtain ⟨l1, l2⟩ := List.pairwise_cons.mp hl
    obtain ⟨m1, m2⟩ := List.pairwise_cons.mp hm
    have e : x = y := by
      have a : y ≤ x := by
        rcases List.mem_cons.mp (h.mem_iff.mp (List.mem_cons_self ..)) with q | q
        · omega
        · exact m1 _ q
      have b : x ≤ y := by
        rcases List.mem_cons.mp (h.mem_iff.mpr (List.mem_cons_self ..)) with q | q
        · omega
        · exact l1 _ q
      omega
    subst e
    rw [sorted_uniq l2 m2 (List.Perm.cons_inv h)]
theorem map_key_inj : ∀ {l m : List Way}, (∀ w ∈ l, w.fig) → (∀ w ∈ m, w.fig) → l.map Way.key = m.map Way.key → l = m
  | [], [], _, _, _ => rfl
  | [], _ :: _, _, _, h => by simp at h
  | _ :: _, [], _, _, h => by simp at h
  | x :: l, y :: m, hl, hm, h => by
    rw [List.map_cons, List.map_cons] at h
    injection h with h1 h2
    rw [key_inj (hl x (List.mem_cons_self ..)) (hm y (List.mem_cons_self ..)) h1, map_key_inj (fun w hw => hl w (List.mem_cons_of_mem _ hw)) (fun w hw => hm w (List.mem_cons_of_mem _ hw)) h2]
theorem ways_uniq {l m : List Way} (hl : ∀ w ∈ l, w.fig) (hp : l.Perm m) (a : (l.map Way.key).Pairwise (· ≤ ·)) (b : (m.map Way.key).Pairwise (· ≤ ·)) : l = m :=
  map_key_inj hl (fun w hw => hl w (hp.mem_iff.mpr hw)) (sorted_uniq a b (hp.map _))
theorem Asc.le {ws : List Way} (h : Asc ws) : (ws.map Way.key).Pairwise (· ≤ ·) := List.Pairwise.imp (fun {a b} (q : a < b) => by omega) h
theorem asc_snoc {ws : List Way} {w : Way} (h : Asc ws) (hl : ∀ v, ws.getLast? = some v → v.key < w.key) : Asc (ws ++ [w]) := by
  unfold Asc
  rw [List.map_append, List.pairwise_append]
  refine ⟨h, by simp, ?_⟩
  intro a ha b hb
  obtain ⟨v, hv, rfl⟩ := List.mem_map.mp ha
  rw [List.map_cons, List.map_nil, List.mem_singleton] at hb
  subst hb
  cases e : ws.getLast? with
  | none =>
    rw [List.getLast?_eq_none_iff] at e
    rw [e] at hv
    cases hv
  | some l =>
    have q := hl l e
    obtain ⟨ys, rfl⟩ := List.getLast?_eq_some_iff.mp e
    rcases List.mem_append.mp hv with hv | hv
    · have h3 : (ys.map Way.key ++ [l.key]).Pairwise (· < ·) := by
        have h4 := h
        unfold Asc at h4
        rw [List.map_append] at h4
        exact h4
      have h5 := (List.pairwise_append.mp h3).2.2 v.key (List.mem_map.mpr ⟨v, hv, rfl⟩) l.key (List.mem_singleton.mpr rfl)
      omega
    · rw [List.mem_singleton] at hv
      subst hv
      exact q
/-! ### the lines behind the first -/
def lastKey (ws : List Way) : Int := (ws.getLast?.map Way.key).getD (-1)
theorem lastKey_nil : lastKey [] = -1 := rfl
theorem lastKey_snoc (ws : List Way) (w : Way) : lastKey (ws ++ [w]) = w.key := by
  unfold lastKey
  rw [List.getLast?_concat]
  rfl
def scan (s c : Int) : Nat → Int → List Str → Except Nat (List Way)
  | _, _, [] => .ok []
  | k, last, l :: r => match wayOf l s c with
    | none => .error k
    | some w => if w.key ≤ last then .error k else (match scan s c (k + 1) w.key r with
      | .ok ws => .ok (w :: ws)
      | .error j => .error j)
def glue (ws : List Way) : Except Nat (List Way) → Except Nat (List Way)
  | .ok vs => .ok (ws ++ vs)
  | .error k => .error k
theorem glue_nil (r : Except Nat (List Way)) : glue [] r = r := by cases r <;> rfl
theorem scan_none {s c : Int} {k : Nat} {last : Int} {l : Str} {r : List Str} (h : wayOf l s c = none) : scan s c k last (l :: r) = .error k := by
  unfold scan
  rw [h]
theorem scan_low {s c : Int} {k : Nat} {last : Int} {l : Str} {r : List Str} {w : Way} (h : wayOf l s c = some w) (hk : w.key ≤ last) : scan s c k last (l :: r) = .error k := by
  unfold scan
  rw [h]
  exact if_pos hk
theorem scan_go {s c : Int} {k : Nat} {last : Int} {l : Str} {r : List Str} {w : Way} (h : wayOf l s c = some w) (hk : ¬ w.key ≤ last) : scan s c k last (l :: r) = glue [w] (scan s c (k + 1) w.key r) := by
  conv => lhs; unfold scan
  rw [h]
  show (if w.key ≤ last then _ else _) = _
  rw [if_neg hk]
  cases scan s c (k + 1) w.key r <;> rfl
theorem glue_glue (a b : List Way) (r : Except Nat (List Way)) : glue a (glue b r) = glue (a ++ b) r := by
  cases r with
  | error k => rfl
  | ok vs => exact congrArg Except.ok (List.append_assoc a b vs).symm
def covers (s c : Int) (ws : List Way) : Bool := (List.range s.toNat).all fun a => (List.range c.toNat).all fun b => ws.any fun w => decide (w.st = (a : Int)) && decide (w.ca = (b : Int))
/-- what a text of a book tells: the place of the first wrong line, or the book -/
def bookOf (z : Str) : Except Nat (Int × Int × List Way) :=
  match parts z 10 with
  | [] => .error 0
  | l :: r => match sizesOf l with
    | none => .error 0
    | some (s, c) => match scan s c 1 (-1) r with
      | .error k => .error k
      | .ok ws => if covers s c ws = true then .ok (s, c, ws) else .error (r.length + 1)
theorem scan_ok {s c : Int} (hs : s ≤ 6) (hc : c ≤ 4) : ∀ {r : List Str} {k : Nat} {last : Int} {ws : List Way}, scan s c k last r = .ok ws → (∀ w ∈ ws, w.ok s c) ∧ Asc ws ∧ r = ws.map Way.txt ∧ ∀ w ∈ ws, last < w.key
  | [], k, last, ws, h => by
    cases h
    exact ⟨by simp, by simp [Asc], rfl, by simp⟩
  | l :: r, k, last, ws, h => by
    cases e : wayOf l s c with
    | none =>
      rw [scan_none e] at h
      cases h
    | some w =>
      by_cases hk : w.key ≤ last
      · rw [scan_low e hk] at h
        cases h
      · rw [scan_go e hk] at h
        cases q : scan s c (k + 1) w.key r with
        | error j =>
          rw [q] at h
          cases h
        | ok vs =>
          rw [q] at h
          have h2 : w :: vs = ws := Except.ok.inj h
          subst h2
          obtain ⟨i1, i2, i3, i4⟩ := scan_ok hs hc q
          obtain ⟨w1, w2⟩ := (way_iff hs hc).mp e
          refine ⟨fun v hv => ?_, ?_, by rw [i3, w2, List.map_cons], fun v hv => ?_⟩
          · rcases List.mem_cons.mp hv with rfl | hv
            · exact w1
            · exact i1 v hv
          · unfold Asc
            rw [List.map_cons, List.pairwise_cons]
            refine ⟨fun a ha => ?_, i2⟩
            obtain ⟨v, hv, rfl⟩ := List.mem_map.mp ha
            exact i4 v hv
          · rcases List.mem_cons.mp hv with rfl | hv
            · omega
            · have := i4 v hv
              omega
theorem scan_txt {s c : Int} (hs : s ≤ 6) (hc : c ≤ 4) : ∀ {ws : List Way} {k : Nat} {last : Int}, (∀ w ∈ ws, w.ok s c) → Asc ws → (∀ w ∈ ws, last < w.key) → scan s c k last (ws.map Way.txt) = .ok ws
  | [], _, _, _, _, _ => rfl
  | w :: r, k, last, h, ha, hl => by
    rw [List.map_cons, scan_go ((way_iff hs hc).mpr ⟨h w (List.mem_cons_self ..), rfl⟩) (by have := hl w (List.mem_cons_self ..); omega)]
    have ha2 : (w.key :: r.map Way.key).Pairwise (· < ·) := ha
    obtain ⟨h1, h2⟩ := List.pairwise_cons.mp ha2
    rw [scan_txt hs hc (fun v hv => h v (List.mem_cons_of_mem _ hv)) h2 fun v hv => h1 _ (List.mem_map.mpr ⟨v, hv, rfl⟩)]
    rfl
/-- a whole book -/
structure BookOk (s c : Int) (ws : List Way) : Prop where
  s1 : 1 ≤ s
  s6 : s ≤ 6
  c1 : 1 ≤ c
  c4 : c ≤ 4
  ok : ∀ w ∈ ws, w.ok s c
  asc : Asc ws
  cov : covers s c ws = true
theorem BookOk.len {s c : Int} {ws : List Way} (B : BookOk s c ws) : ws.length ≤ 432 := ways_len B.s6 B.c4 B.ok B.asc
theorem BookOk.fig {s c : Int} {ws : List Way} (B : BookOk s c ws) : ∀ w ∈ ws, w.fig := fun w hw => (B.ok w hw).fig B.s6 B.c4
def bookT (s c : Int) (ws : List Way) : Str := Txt.join (S [10]) (sizeT s c :: ws.map Way.txt)
theorem Way.ok.figs {s c : Int} {w : Way} (h : w.ok s c) (hs : s ≤ 6) (hc : c ≤ 4) : (0 ≤ w.st ∧ w.st ≤ 9) ∧ (0 ≤ w.ca ∧ w.ca ≤ 9) ∧ (0 ≤ w.an ∧ w.an ≤ 9) ∧ (0 ≤ w.nx ∧ w.nx ≤ 9) := h.fig hs hc
theorem dg_not {n : Int} (h : 0 ≤ n ∧ n ≤ 9) : ¬ 10 = dg n := fun e => by
  have := dg_bounds h
  omega
/-- THE READ-BACK -/
theorem book_back {s c : Int} {ws : List Way} (B : BookOk s c ws) : bookOf (bookT s c ws) = .ok (s, c, ws) := by
  have e : parts (bookT s c ws) 10 = sizeT s c :: ws.map Way.txt := by
    refine TL.split_join (y := S [10]) (s := 10) (S := []) (tl_S _) (by simp) (by simp) fun p hp => ?_
    rcases List.mem_cons.mp hp with rfl | hp
    · rw [sizeT, show TL.tl (S _) = _ from tl_S _]
      have b1 := dg_not (n := s) ⟨by have := B.s1; omega, by have := B.s6; omega⟩
      have b2 := dg_not (n := c) ⟨by have := B.c1; omega, by have := B.c4; omega⟩
      simp [b1, b2]
    · obtain ⟨w, hw, rfl⟩ := List.mem_map.mp hp
      obtain ⟨f1, f2, f3, f4⟩ := B.fig w hw
      rw [Way.txt, show TL.tl (S _) = _ from tl_S _]
      simp [dg_not f1, dg_not f2, dg_not f3, dg_not f4]
  unfold bookOf
  rw [e]
  show (match sizesOf (sizeT s c) with
    | none => Except.error 0
    | some (s, c) => match scan s c 1 (-1) (ws.map Way.txt) with
      | .error k => .error k
      | .ok vs => if covers s c vs = true then .ok (s, c, vs) else .error ((ws.map Way.txt).length + 1)) = _
  rw [sizes_iff.mpr ⟨⟨⟨B.s1, B.s6⟩, B.c1, B.c4⟩, rfl⟩]
  show (match scan s c 1 (-1) (ws.map Way.txt) with
      | .error k => Except.error k
      | .ok vs => if covers s c vs = true then .ok (s, c, vs) else .error ((ws.map Way.txt).length + 1)) = _
  rw [scan_txt B.s6 B.c4 B.ok B.asc fun w hw => ?_]
  · exact if_pos B.cov
  · obtain ⟨f1, f2, f3, f4⟩ := B.fig w hw
    unfold Way.key
    omega
theorem bookT_len (s c : Int) {ws : List Way} (h : ws.length ≤ 432) : (bookT s c ws).length ≤ 4000 := by
  have e : wt (sizeT s c :: ws.map Way.txt) = 9 + 8 * ws.length := by
    rw [wt_cons, show (sizeT s c).length = 8 from SX.S_len _]
    have q : ∀ vs : List Way, wt (vs.map Way.txt) = 8 * vs.length := by
      intro vs
      induction vs with
      | nil => rfl
      | cons v r ih => rw [List.map_cons, wt_cons, ih, show v.txt.length = 7 from SX.S_len _, List.length_cons]; omega
    rw [q]
  have h2 := join_len 10 (sizeT s c :: ws.map Way.txt)
  unfold bookT
  omega
/-! ### coverage by a count of couples -/
theorem covers_iff {s c : Int} {ws : List Way} (hs : 0 ≤ s) (hc : 0 ≤ c) : covers s c ws = true ↔ ∀ a b : Int, 0 ≤ a → a < s → 0 ≤ b → b < c → ∃ w ∈ ws, w.st = a ∧ w.ca = b := by
  unfold covers
  rw [List.all_eq_true]
  constructor
  · intro h a b a0 a1 b0 b1
    have h1 := h a.toNat (List.mem_range.mpr (by omega))
    rw [List.all_eq_true] at h1
    have h2 := h1 b.toNat (List.mem_range.mpr (by omega))
    rw [List.any_eq_true] at h2
    obtain ⟨w, hw, e⟩ := h2
    rw [Bool.and_eq_true, decide_eq_true_eq, decide_eq_true_eq] at e
    exact ⟨w, hw, by omega, by omega⟩
  · intro h a ha
    rw [List.all_eq_true]
    intro b hb
    rw [List.mem_range] at ha hb
    rw [List.any_eq_true]
    obtain ⟨w, hw, e1, e2⟩ := h a b (by omega) (by omega) (by omega) (by omega)
    exact ⟨w, hw, by rw [Bool.and_eq_true, decide_eq_true_eq, decide_eq_true_eq]; exact ⟨e1, e2⟩⟩
theorem nodup_le {α : Type} [DecidableEq α] : ∀ {l m : List α}, l.Nodup → (∀ x ∈ l, x ∈ m) → l.length ≤ m.length
  | [], m, _, _ => Nat.zero_le _
  | a :: r, m, hn, h => by
    obtain ⟨h1, h2⟩ := List.nodup_cons.mp hn
    have ha := h a (List.mem_cons_self ..)
    have ih := nodup_le (m := m.erase a) h2 fun x hx => (List.mem_erase_of_ne (fun e => h1 (by rw [← e]; exact hx))).mpr (h x (List.mem_cons_of_mem _ hx))
    rw [List.length_erase_of_mem ha] at ih
    have : 0 < m.length := List.length_pos_of_mem ha
    rw [List.length_cons]
    omega
def pairs (s c : Nat) : List (Int × Int) := (List.range s).flatMap fun (a : Nat) => (List.range c).map fun (b : Nat) => ((a : Int), (b : Int))
theorem mem_pairs {s c : Nat} {p : Int × Int} : p ∈ pairs s c ↔ (0 ≤ p.1 ∧ p.1 < s) ∧ (0 ≤ p.2 ∧ p.2 < c) := by
  unfold pairs
  simp only [List.mem_flatMap, List.mem_map, List.mem_range]
  constructor
  · rintro ⟨a, ha, b, hb, rfl⟩
    exact ⟨⟨by show 0 ≤ (a : Int); omega, by show (a : Int) < s; omega⟩, by show 0 ≤ (b : Int); omega, by show (b : Int) < c; omega⟩
  · rintro ⟨h1, h2⟩
    obtain ⟨x, y⟩ := p
    exact ⟨x.toNat, by dsimp only at h1; omega, y.toNat, by dsimp only at h2; omega, by dsimp only at h1 h2; rw [Int.toNat_of_nonneg h1.1, Int.toNat_of_nonneg h2.1]⟩
theorem pairs_small : ∀ s < 7, ∀ c < 5, (pairs s c).Nodup ∧ (pairs s c).length = s * c := by decide +kernel
/-- fewer couples than s * c: some state and call have no way -/
theorem count_covers {s c : Int} {ws : List Way} {ps : List (Int × Int)} (hs : 0 ≤ s ∧ s ≤ 6) (hc : 0 ≤ c ∧ c ≤ 4) (ho : ∀ w ∈ ws, w.ok s c) (hn : ps.Nodup) (hm : ∀ p, p ∈ ps ↔ ∃ w ∈ ws, p = (w.st, w.ca)) :
    decide ((ps.length : Int) < s * c) = !covers s c ws := by
  obtain ⟨p1, p2⟩ := pairs_small s.toNat (by omega) c.toNat (by omega)
  have e : ((s.toNat * c.toNat : Nat) : Int) = s * c := by
    rw [Int.natCast_mul, Int.toNat_of_nonneg hs.1, Int.toNat_of_nonneg hc.1]
  have sub : ∀ x ∈ ps, x ∈ pairs s.toNat c.toNat := fun x hx => by
    obtain ⟨w, hw, rfl⟩ := (hm x).mp hx
    obtain ⟨h1, h2, _⟩ := ho w hw
    exact mem_pairs.mpr ⟨⟨h1.1, by show w.st < _; omega⟩, h2.1, by show w.ca < _; omega⟩
  cases hcv : covers s c ws with
  | true =>
    have h := (covers_iff hs.1 hc.1).mp hcv
    have l := nodup_le p1 fun x hx => by
      obtain ⟨h1, h2⟩ := mem_pairs.mp hx
      obtain ⟨w, hw, e1, e2⟩ := h x.1 x.2 h1.1 (by omega) h2.1 (by omega)
      exact (hm x).mpr ⟨w, hw, by rw [e1, e2]⟩
    exact decide_eq_false (by omega)
  | false =>
    have h : ¬ ∀ a b : Int, 0 ≤ a → a < s → 0 ≤ b → b < c → ∃ w ∈ ws, w.st = a ∧ w.ca = b := fun q => by
      rw [(covers_iff hs.1 hc.1).mpr q] at hcv
      cases hcv
    have h2 : ∃ x ∈ pairs s.toNat c.toNat, x ∉ ps := Classical.byContradiction fun q => h fun a b a0 a1 b0 b1 => Classical.byContradiction fun z => q ⟨(a, b), mem_pairs.mpr ⟨⟨a0, by show a < _; omega⟩, b0, by show b < _; omega⟩, fun y => by
      obtain ⟨w, hw, e3⟩ := (hm _).mp y
      injection e3 with e4 e5
      exact z ⟨w, hw, e4.symm, e5.symm⟩⟩
    obtain ⟨x, hx, hx2⟩ := h2
    have l := nodup_le (m := pairs s.toNat c.toNat) (List.nodup_cons.mpr ⟨hx2, hn⟩) fun y hy => by
      rcases List.mem_cons.mp hy with rfl | hy
      · exact hx
      · exact sub y hy
    rw [List.length_cons] at l
    exact decide_eq_true (by omega)
/-! ### entries and histories -/
structure Ent where
  ha : Int
  ca : Int
  an : Int
  deriving DecidableEq
def Ent.row (e : Ent) : List Int := [e.ha, e.ca, e.an]
def Ent.ok (c : Int) (e : Ent) : Prop := (0 ≤ e.ha ∧ e.ha ≤ 9) ∧ (0 ≤ e.ca ∧ e.ca < c) ∧ (0 ≤ e.an ∧ e.an < 3)
def Ent.txt (e : Ent) : Str := S [dg e.ha, 58, dg e.ca, 62, dg e.an]
def entOf (z : Str) (c : Int) : Option Ent :=
  match tl z with
  | [a, x, b, y, d] => if x = 58 ∧ y = 62 then (match smallN (S [a]) 0 9, smallN (S [b]) 0 (c - 1), smallN (S [d]) 0 2 with
    | some h, some k, some n => some ⟨h, k, n⟩
    | _, _, _ => none) else none
  | _ => none
theorem ent_iff {z : Str} {c : Int} {e : Ent} (hc : c ≤ 4) : entOf z c = some e ↔ e.ok c ∧ z = e.txt := by
  constructor
  · intro h
    unfold entOf at h
    split at h
    · rename_i a x b y d q
      split at h
      · rename_i hxy
        split at h
        · rename_i i j k e0 e1 e2
          cases h
          obtain ⟨a1, a2, a3⟩ := smallN_some.mp e0
          obtain ⟨b1, b2, b3⟩ := smallN_some.mp e1
          obtain ⟨d1, d2, d3⟩ := smallN_some.mp e2
          rw [tl_S] at a3 b3 d3
          refine ⟨⟨by show 0 ≤ i ∧ i ≤ 9; omega, by show 0 ≤ j ∧ j < c; omega, by show 0 ≤ k ∧ k < 3; omega⟩, str_iff.mpr ?_⟩
          injection a3 with a4 _
          injection b3 with b4 _
          injection d3 with d4 _
          rw [q, hxy.1, hxy.2, a4, b4, d4]
        · cases h
      · cases h
    · cases h
  · rintro ⟨⟨h1, h2, h3⟩, rfl⟩
    unfold entOf
    rw [Ent.txt, tl_S]
    show (if 58 = 58 ∧ 62 = 62 then (match smallN (S [dg e.ha]) 0 9, smallN (S [dg e.ca]) 0 (c - 1), smallN (S [dg e.an]) 0 2 with
      | some h, some k, some n => some (⟨h, k, n⟩ : Ent)
      | _, _, _ => none) else none) = _
    rw [if_pos ⟨rfl, rfl⟩, smallN_some.mpr ⟨(by omega : 0 ≤ e.ha ∧ e.ha ≤ 9), by omega, tl_S _⟩, smallN_some.mpr ⟨(by omega : 0 ≤ e.ca ∧ e.ca ≤ c - 1), by omega, tl_S _⟩, smallN_some.mpr ⟨(by omega : 0 ≤ e.an ∧ e.an ≤ 2), by omega, tl_S _⟩]
theorem ent_inj {c c' : Int} {e f : Ent} (he : e.ok c) (hf : f.ok c') (h : e.txt = f.txt) : e = f := by
  have q := SX.S_inj h
  obtain ⟨a1, a2, a3⟩ := he
  obtain ⟨b1, b2, b3⟩ := hf
  obtain ⟨x, y, z⟩ := e
  obtain ⟨u, v, w⟩ := f
  simp only [List.cons.injEq, true_and, and_true] at q
  obtain ⟨e1, e2, e3⟩ := q
  dsimp only at a1 a2 a3 b1 b2 b3 e1 e2 e3
  rw [dg_inj a1.1 b1.1 e1, dg_inj a2.1 b2.1 e2, dg_inj a3.1 b3.1 e3]
def scanE (c : Int) : Nat → List Str → Except Nat (List Ent)
  | _, [] => .ok []
  | k, l :: r => match entOf l c with
    | none => .error k
    | some e => (match scanE c (k + 1) r with
      | .ok es => .ok (e :: es)
      | .error j => .error j)
def glueE (es : List Ent) : Except Nat (List Ent) → Except Nat (List Ent)
  | .ok vs => .ok (es ++ vs)
  | .error k => .error k
theorem glueE_nil (r : Except Nat (List Ent)) : glueE [] r = r := by cases r <;> rfl
theorem glueE_glue (a b : List Ent) (r : Except Nat (List Ent)) : glueE a (glueE b r) = glueE (a ++ b) r := by
  cases r with
  | error k => rfl
  | ok vs => exact congrArg Except.ok (List.append_assoc a b vs).symm
theorem scanE_none {c : Int} {k : Nat} {l : Str} {r : List Str} (h : entOf l c = none) : scanE c k (l :: r) = .error k := by
  unfold scanE
  rw [h]
theorem scanE_go {c : Int} {k : Nat} {l : Str} {r : List Str} {e : Ent} (h : entOf l c = some e) : scanE c k (l :: r) = glueE [e] (scanE c (k + 1) r) := by
  conv => lhs; unfold scanE
  rw [h]
  show (match scanE c (k + 1) r with
      | .ok es => Except.ok (e :: es)
      | .error j => .error j) = _
  cases scanE c (k + 1) r <;> rfl
/-- what a text of a history tells -/
def histOf (c : Int) (z : Str) : Except Nat (List Ent) :=
  if z = Str.empty then .ok [] else if (parts z 32).length > 400 then .error 400 else scanE c 0 (parts z 32)
def histT (es : List Ent) : Str := Txt.join (S [32]) (es.map Ent.txt)
theorem histT_len {es : List Ent} (h : es.length ≤ 401) : (histT es).length ≤ 4000 := by
  have q : ∀ vs : List Ent, wt (vs.map Ent.txt) = 6 * vs.length := by
    intro vs
    induction vs with
    | nil => rfl
    | cons v r ih => rw [List.map_cons, wt_cons, ih, show v.txt.length = 5 from SX.S_len _, List.length_cons]; omega
  have h2 := join_len 32 (es.map Ent.txt)
  rw [q] at h2
  unfold histT
  omega
/-! ### results as data -/
def dRow (r : List Int) : PyData := .tuple (r.map PyData.int)
def dBook : Except Nat (Int × Int × List Way) → PyData
  | .error k => .int k
  | .ok (s, c, ws) => .tuple [.int s, .int c, .tuple (ws.map fun w => dRow w.row)]
def dHist : Except Nat (List Ent) → PyData
  | .error k => .int k
  | .ok es => .tuple (es.map fun e => dRow e.row)
end K3
/-! The text by places, what a def is known by, heaps, rules that the layer lacks. -/
namespace K3
open PySem PySem.Spec PyProof.Rows L2
def top (i : Nat) : Stmt := PySem.Challenge.pw_unmetcells_k03_whole_texts_of_books_and.main.body.getD i (.Pass ⟨0, 0, 0, 0⟩)
/-! ### a def as it stands, a def that is done -/
/-- the def st stands under the name x -/
def DefAt (K : PySem.W.Frag) (mg : Str → Option Value) (x : Str) (st : Stmt) : Prop := ∃ f fd, FunD K x x (defArgs st) (defBody st) (defScope st) [] [] f fd ∧ mg x = some (.ref f)
/-- a def that keeps the promise sp, as its callers need it -/
def Got (P : Program) (w : World) (K : PySem.W.Frag) (mg : Str → Option Value) (base : Heap) (CX : CXT) (k : Nat) (x : Str) (ps : List Str) (sp : Sp) : Prop :=
  ∃ f fd, FnOk P w K mg base CX k f fd ps sp ∧ mg x = some (.ref f) ∧ PySem.W.keepIn K (.ref f) = true ∧ Binds K fd ps []
section
variable {P : Program} {w : World} {K : PySem.W.Frag} {mg : Str → Option Value} {base : Heap}
theorem got_of {CX : CXT} {x : Str} {st : Stmt} {N ps : List Str} {k : Nat} {sp : Sp} (D : DefAt K mg x st) (S : FnScope N ps (defScope st))
    (hb : ∀ (kV doc pm : Value) (an : Option Addr) (cdv ct : Value) (us : List Value), us.length = ps.length → bindArgs (PySem.W.fnOf x x (defArgs st) (defBody st) (defScope st) .none kV doc pm an cdv ct) ⟨us, []⟩ = pure (ps.zip us))
    (len : ∀ vs H Q E, sp vs H Q E → vs.length = ps.length)
    (hbody : ∀ (f : Addr) (cdv : Value) (A : Around) (outer : List Env) (s : Shared) (H : Hp) (vs : List V) (Q : VK) (E : XK), Room k (A.deeper (envOfC x (defScope st) s.heap.objs.size f cdv)) → sp vs H Q E →
      ∃ t, PSs (cxOf CX P w K mg base N x (defScope st) f cdv A outer s H E) (defBody st) t ∧ t { nx := fun _ H' => Q .non H', rt := Q } (start N vs) H) : Got P w K mg base CX (k + 1) x ps sp := by
  obtain ⟨f, fd, F, g⟩ := D
  exact ⟨f, fd, F.ok S len (hbody f), g, F.kp, F.bindsN hb⟩
/-- the same for a def that nothing is raised out of -/
theorem got0 {x : Str} {st : Stmt} {N ps : List Str} {k : Nat} {sp : Sp} (D : DefAt K mg x st) (S : FnScope N ps (defScope st))
    (hb : ∀ (kV doc pm : Value) (an : Option Addr) (cdv ct : Value) (us : List Value), us.length = ps.length → bindArgs (PySem.W.fnOf x x (defArgs st) (defBody st) (defScope st) .none kV doc pm an cdv ct) ⟨us, []⟩ = pure (ps.zip us))
    (len : ∀ vs H Q E, sp vs H Q E → vs.length = ps.length)
    (hbody : ∀ (f : Addr) (cdv : Value) (A : Around) (outer : List Env) (s : Shared) (H : Hp) (vs : List V) (Q : VK) (E : XK), Room k (A.deeper (envOfC x (defScope st) s.heap.objs.size f cdv)) → sp vs H Q E →
      ∃ t, PSs (cxOf CX0 P w K mg base N x (defScope st) f cdv A outer s H E).nox (defBody st) t ∧ t { nx := fun _ H' => Q .non H', rt := Q } (start N vs) H) : Got P w K mg base CX0 (k + 1) x ps sp :=
  got_of D S hb len fun f cdv A outer s H vs Q E hr h => let ⟨t, a, b⟩ := hbody f cdv A outer s H vs Q E hr h; ⟨t, a.nox, b⟩
theorem Got.mono {CX : CXT} {x : Str} {ps : List Str} {j k : Nat} {sp : Sp} (G : Got P w K mg base CX j x ps sp) (h : j ≤ k) : Got P w K mg base CX k x ps sp := by
  obtain ⟨f, fd, F, r⟩ := G
  exact ⟨f, fd, F.mono h, r⟩
end
/-- the built-in names are the built-in things; the module's numbers -/
structure Txt (K : PySem.W.Frag) (mg : Str → Option Value) : Prop where
  isin : mg "isinstance" = none
  int : mg "int" = none
  bool : mg "bool" = none
  str : mg "str" = none
  list : mg "list" = none
  tuple : mg "tuple" = none
  len : mg "len" = none
  sorted : mg "sorted" = none
  range : mg "range" = none
  zip : mg "zip" = none
  enum : mg "enumerate" = none
  abs : mg "abs" = none
  mStates : ∃ t, mg "MOST_STATES" = some (.int 6 t)
  mCalls : ∃ t, mg "MOST_CALLS" = some (.int 4 t)
  mAnswers : ∃ t, mg "MOST_ANSWERS" = some (.int 3 t)
  mWays : ∃ t, mg "MOST_WAYS" = some (.int 432 t)
  mHand : ∃ t, mg "MOST_HAND" = some (.int 9 t)
  mEntries : ∃ t, mg "MOST_ENTRIES" = some (.int 400 t)
  figures : ∃ t, mg "FIGURES" = some (.str "0123456789" t)
section
variable {X : Cx}
/-- a module's number -/
theorem pe_num {x : Str} {n : Int} {pos : Pos} (h : ∃ t, X.mg x = some (.int n t)) (hg : Gl X x := by rfl) (hd : (x == ("__debug__" : Str)) = false := by decide) : PE X (.Name x pos) (tC (.int n)) := by
  obtain ⟨t, e⟩ := h
  exact pe_glob hg e ⟨t, rfl⟩ hd
/-- len of a list or a tuple; of a text -/
theorem pe_len {e : Expr} {p pos : Pos} {te : TE} (hm : X.mg "len" = none) (he : PE X e te) (hg : Gl X "len" := by rfl) (hst : starEach [e] X.env = (false, eval e X.env) :: starEach [] X.env := by rfl) : PE X (.Call (.Name "len" p) [e] [] pos) (tCB (fun xs H Q => ∃ p ys, xs = [.ref p] ∧ (SqL X.K H p ys ∨ SqT X.K H p ys) ∧ Q (.int ys.length) H) (tCons te tNil)) :=
  pe_callB call_len_seq hg hm PySem.boot_len (pa_cons he pa_nil hst) (by decide) (by decide) hst
theorem pe_lenS {e : Expr} {p pos : Pos} {te : TE} (hm : X.mg "len" = none) (he : PE X e te) (hg : Gl X "len" := by rfl) (hst : starEach [e] X.env = (false, eval e X.env) :: starEach [] X.env := by rfl) : PE X (.Call (.Name "len" p) [e] [] pos) (tCB (fun xs H Q => ∃ z, xs = [.str z] ∧ z.length ≤ sizeLine ∧ Q (.int z.length) H) (tCons te tNil)) :=
  pe_callB call_len_str hg hm PySem.boot_len (pa_cons he pa_nil hst) (by decide) (by decide) hst
/-- a built-in class as a value -/
theorem pe_ty {x : Str} {T : String} {pos : Pos} (hm : X.mg x = none) (hv : bootBuiltins x = some (.type T)) (hg : Gl X x := by rfl) (hn : x ≠ "__name__" := by decide) (hd : (x == ("__debug__" : Str)) = false := by decide) : PE X (.Name x pos) (tC (.ty T)) := pe_bltn hg hm hv rfl hn hd
/-- isinstance(e, c) -/
theorem pe_isin {e c : Expr} {p pos : Pos} {te tc : TE} (hm : X.mg "isinstance" = none) (he : PE X e te) (hc : PE X c tc) (hg : Gl X "isinstance" := by rfl) (hst : starEach [e, c] X.env = (false, eval e X.env) :: starEach [c] X.env := by rfl) (hst2 : starEach [c] X.env = (false, eval c X.env) :: starEach [] X.env := by rfl)
    (hpl : (backTo pos (starEach [c] X.env)).any (·.1) = false := by rfl) : PE X (.Call (.Name "isinstance" p) [e, c] [] pos) (tCB (rIsi X.K) (tCons te (tCons tc tNil))) :=
  pe_callB call_isi hg hm (by decide +kernel) (pa_cons he (pa_cons hc pa_nil hst2) hst) (by decide) (by decide) hst hpl
theorem pe_isinT {e c : Expr} {p pos : Pos} {te tc : TE} (hm : X.mg "isinstance" = none) (he : PE X e te) (hc : PE X c tc) (hg : Gl X "isinstance" := by rfl) (hst : starEach [e, c] X.env = (false, eval e X.env) :: starEach [c] X.env := by rfl) (hst2 : starEach [c] X.env = (false, eval c X.env) :: starEach [] X.env := by rfl)
    (hpl : (backTo pos (starEach [c] X.env)).any (·.1) = false := by rfl) : PE X (.Call (.Name "isinstance" p) [e, c] [] pos) (tCB (rIsiT X.K) (tCons te (tCons tc tNil))) :=
  pe_callB call_isiT hg hm (by decide +kernel) (pa_cons he (pa_cons hc pa_nil hst2) hst) (by decide) (by decide) hst hpl
end
theorem bt_int : bootBuiltins "int" = some (.type "int") := by decide +kernel
theorem bt_bool : bootBuiltins "bool" = some (.type "bool") := by decide +kernel
theorem bt_str : bootBuiltins "str" = some (.type "str") := by decide +kernel
theorem bt_list : bootBuiltins "list" = some (.type "list") := by decide +kernel
theorem bt_tuple : bootBuiltins "tuple" = some (.type "tuple") := by decide +kernel
theorem bb_sorted : bootBuiltins "sorted" = some (.builtin "sorted") := by decide +kernel
theorem bb_abs : bootBuiltins "abs" = some (.builtin "abs") := by decide +kernel
/-! ### heaps -/
theorem _root_.L2.Same.upd {H : Hp} {p : Addr} {o : HO} (h : H p = none) : Same H (upd H p o) := fun b u e => by
  rw [upd_ne (ne_of_none e h)]
  exact e
theorem _root_.L2.Same.new {H H1 : Hp} {p : Addr} {o : HO} (s : Same H H1) (h : H1 p = none) : Same H (L2.upd H1 p o) := s.trans (Same.upd h)
theorem _root_.L2.Same.seqT {K : PySem.W.Frag} {H H' : Hp} {a : Addr} {xs : List V} (e : Same H H') (h : SqT K H a xs) : SqT K H' a xs := by
  rcases h with (h | ⟨o, h⟩) | h
  · exact .inl (.inl (e _ _ h))
  · exact .inl (.inr ⟨o, e _ _ h⟩)
  · exact .inr h
/-- all that was tracked, but what stands at h, is as it was -/
def KeepBut (h : Addr) (H H' : Hp) : Prop := ∀ b o, H b = some o → b ≠ h → H' b = some o
theorem KeepBut.refl (h : Addr) (H : Hp) : KeepBut h H H := fun _ _ e _ => e
theorem _root_.L2.Same.but {h : Addr} {H H' : Hp} (s : Same H H') : KeepBut h H H' := fun b o e _ => s b o e
theorem KeepBut.trans {h : Addr} {H H1 H2 : Hp} (a : KeepBut h H H1) (b : KeepBut h H1 H2) : KeepBut h H H2 := fun c o e n => b c o (a c o e n) n
/-- a list of tuples of ints: where they stand, what they hold -/
def Tup (H : Hp) (p : Addr) (r : List Int) : Prop := H p = some (.tup (r.map V.int))
theorem Tup.same {H H' : Hp} {p : Addr} {r : List Int} (e : Same H H') (h : Tup H p r) : Tup H' p r := e _ _ h
theorem Tup.t {K : PySem.W.Frag} {H : Hp} {p : Addr} {r : List Int} (h : Tup H p r) : SqT K H p (r.map V.int) := SqT.of h
/-- each of the addresses holds its row -/
inductive Rows (H : Hp) : List Addr → List (List Int) → Prop
  | nil : Rows H [] []
  | cons {p : Addr} {r : List Int} {ps : List Addr} {rs : List (List Int)} : Tup H p r → Rows H ps rs → Rows H (p :: ps) (r :: rs)
theorem Rows.same {H H' : Hp} {ps : List Addr} {rs : List (List Int)} (e : ∀ p r, Tup H p r → Tup H' p r) (h : Rows H ps rs) : Rows H' ps rs := by
  induction h with
  | nil => exact .nil
  | cons a _ ih => exact .cons (e _ _ a) ih
theorem Rows.len {H : Hp} {ps : List Addr} {rs : List (List Int)} (h : Rows H ps rs) : ps.length = rs.length := by
  induction h with
  | nil => rfl
  | cons _ _ ih => rw [List.length_cons, List.length_cons, ih]
theorem Rows.get {H : Hp} {ps : List Addr} {rs : List (List Int)} (h : Rows H ps rs) : ∀ {i : Nat} {r : List Int}, rs[i]? = some r → ∃ p, ps[i]? = some p ∧ Tup H p r := by
  induction h with
  | nil => intro i r e; simp at e
  | @cons p r ps rs a _ ih =>
    intro i r' e
    cases i with
    | zero =>
      have q : r = r' := Option.some.inj e
      subst q
      exact ⟨p, rfl, a⟩
    | succ i => exact ih e
theorem Rows.at {H : Hp} {ps : List Addr} {rs : List (List Int)} (h : Rows H ps rs) : ∀ {i : Nat} {p : Addr}, ps[i]? = some p → ∃ r, rs[i]? = some r ∧ Tup H p r := by
  induction h with
  | nil => intro i r e; simp at e
  | @cons p r ps rs a _ ih =>
    intro i p' e
    cases i with
    | zero =>
      have q : p = p' := Option.some.inj e
      subst q
      exact ⟨r, rfl, a⟩
    | succ i => exact ih e
theorem Rows.snoc {H : Hp} {ps : List Addr} {rs : List (List Int)} {p : Addr} {r : List Int} (h : Rows H ps rs) (t : Tup H p r) : Rows H (ps ++ [p]) (rs ++ [r]) := by
  induction h with
  | nil => exact .cons t .nil
  | cons a _ ih => exact .cons a ih
theorem Rows.last {H : Hp} {ps : List Addr} {rs : List (List Int)} (h : Rows H ps rs) {r : List Int} (e : rs.getLast? = some r) : ∃ p, ps.getLast? = some p ∧ Tup H p r := by
  rw [List.getLast?_eq_getElem?] at e
  obtain ⟨p, h1, h2⟩ := h.get e
  refine ⟨p, ?_, h2⟩
  rw [List.getLast?_eq_getElem?, h.len]
  exact h1
abbrev refs (ps : List Addr) : List V := ps.map V.ref
theorem refs_get {ps : List Addr} {i : Nat} {p : Addr} (h : ps[i]? = some p) : (refs ps)[i]? = some (V.ref p) := by
  rw [refs, List.getElem?_map, h]
  rfl
theorem of_refs {ps : List Addr} {i : Nat} {x : V} (h : (refs ps)[i]? = some x) : ∃ p, ps[i]? = some p ∧ x = V.ref p := by
  rw [refs, List.getElem?_map] at h
  cases e : ps[i]? with
  | none => rw [e] at h; cases h
  | some p =>
    rw [e] at h
    exact ⟨p, rfl, (Option.some.inj h).symm⟩
/-! ### data -/
mutual
theorem dp_same {K : PySem.W.Frag} {H H' : Hp} (e : Same H H') : ∀ (d : PyData) (v : V), Dp K H v d → Dp K H' v d
  | .none, _, h => by cases h; exact .non
  | .bool b, _, h => by cases h; exact .bl b
  | .int i, _, h => by cases h; exact .int i
  | .str x, _, h => by cases h; exact .str x
  | .list ds, _, h => by
    cases h with
    | lst a b => exact .lst (e.seq a) (dpAll_same e ds _ b)
  | .tuple ds, _, h => by
    cases h with
    | tup a b => exact .tup (e.seqT a) (dpAll_same e ds _ b)
  | .dict _, _, h => by cases h
theorem dpAll_same {K : PySem.W.Frag} {H H' : Hp} (e : Same H H') : ∀ (ds : List PyData) (vs : List V), DpAll K H vs ds → DpAll K H' vs ds
  | [], _, h => by cases h; exact .nil
  | d :: ds, _, h => by
    cases h with
    | cons a b => exact .cons (dp_same e d _ a) (dpAll_same e ds _ b)
end
theorem dpAll_ints (K : PySem.W.Frag) (H : Hp) : ∀ r : List Int, DpAll K H (r.map V.int) (r.map PyData.int)
  | [] => .nil
  | i :: r => .cons (.int i) (dpAll_ints K H r)
theorem Tup.dp {K : PySem.W.Frag} {H : Hp} {p : Addr} {r : List Int} (h : Tup H p r) : Dp K H (.ref p) (dRow r) := .tup h.t (dpAll_ints K H r)
theorem Rows.dp {K : PySem.W.Frag} {H : Hp} {ps : List Addr} {rs : List (List Int)} (h : Rows H ps rs) : DpAll K H (refs ps) (rs.map dRow) := by
  induction h with
  | nil => exact .nil
  | cons a _ ih => exact .cons a.dp ih
end K3
/-! Rules that the layer lacks: sorted of tuples of ints, zip of a list and a tuple, a dict comprehension whose keys are tuples. -/
namespace K3
open PySem PySem.Spec PyProof.Rows L2
/-! ### sorted of ways, any number of them -/
abbrev AW := Addr × Way
def encW (p : AW) : PyData := dRow p.2.row
theorem le_row (p q : AW) : PySem.W.dataLe false encW p q = decide (p.2.row ≤ q.2.row) := by
  show (!PySem.W.dataLt (.tuple (q.2.row.map PyData.int)) (.tuple (p.2.row.map PyData.int))) = _
  rw [PySem.W.dataLt_tuple]
  show (!PySem.W.rowLt (q.2.row.map .int) (p.2.row.map .int)) = _
  rw [PySem.W.dataLt_ints]
  by_cases h : q.2.row < p.2.row
  · rw [decide_eq_true h, decide_eq_false (fun r => List.not_lt.mpr r h)]
    rfl
  · rw [decide_eq_false h, decide_eq_true (List.not_lt.mp h)]
    rfl
def rSortedW (K : PySem.W.Frag) : List V → Hp → VK → Prop := fun vs H Q => ∃ (a : Addr) (ps : List AW), vs = [V.ref a] ∧ SqL K H a (refs (ps.map (·.1))) ∧ (∀ p ∈ ps, Tup H p.1 p.2.row ∧ p.2.fig) ∧
  ∀ (ps' : List AW) (q : Addr), ps'.Perm ps → ((ps'.map (·.2)).map Way.key).Pairwise (· ≤ ·) → H q = none → Q (.ref q) (upd H q (.lst (refs (ps'.map (·.1)))))
theorem refs_vals : ∀ {ps : List Addr} {us : List Value}, Vals (refs ps) us → us = ps.map Value.ref
  | [], _, .nil => rfl
  | p :: ps, _, .cons r t => by
    obtain rfl := r
    rw [refs_vals t, List.map_cons]
theorem vals_refs : ∀ ps : List Addr, Vals (refs ps) (ps.map Value.ref)
  | [] => .nil
  | p :: ps => .cons rfl (vals_refs ps)
theorem each_refs : ∀ ps : List AW, PySem.W.EachIs (fun v (p : AW) => v = Value.ref p.1) ((ps.map (·.1)).map Value.ref) ps
  | [] => .nil
  | p :: ps => .cons rfl (each_refs ps)
theorem of_each : ∀ {out : List Value} {ps : List AW}, PySem.W.EachIs (fun v (p : AW) => v = Value.ref p.1) out ps → out = (ps.map (·.1)).map Value.ref
  | _, _, .nil => rfl
  | _, _, .cons h t => by rw [h, of_each t]; rfl
section
variable {X : Cx}
theorem each_reads {pins : List (Addr × Obj)} {s : Shared} {σ : L2.St} {H : Hp} (I : Inv X pins σ H s) : ∀ {ps : List AW}, (∀ p ∈ ps, Tup H p.1 p.2.row) → PySem.W.EachIs (fun v p => ∃ as, Reads s.heap v (encW p) as) ((ps.map (·.1)).map Value.ref) ps
  | [], _ => .nil
  | p :: ps, h => .cons (Dp.reads I _ _ _ (h p (List.mem_cons_self ..)).dp rfl) (each_reads I fun q hq => h q (List.mem_cons_of_mem _ hq))
theorem cr_sortedW (hu : X.A.units + 64 < cLine) : CallR X (.builtin "sorted") (rSortedW X.K) := by
  intro pins s σ H vs us Q I r h
  obtain ⟨a, ps, rfl, hs, ht, q⟩ := h
  obtain ⟨its, rv, hl, hz⟩ := I.list hs
  obtain ⟨u, rfl, ru⟩ := vals1 r
  obtain rfl : u = Value.ref a := ru
  have e := refs_vals rv
  subst e
  have hz2 : ps.length ≤ sizeLine := by
    rw [refs, List.length_map, List.length_map] at hz
    exact hz
  refine PySem.W.sorted_data (bs := ps) (enc := encW) (R := fun v p => v = Value.ref p.1) hl.isList (each_refs ps) (each_reads I fun p hp => (ht p hp).1) (PySem.W.AllAlike.of fun b b' => ?_) (PySem.W.Sortable.tuples fun b => ⟨.int b.2.st, [.int b.2.ca, .int b.2.an, .int b.2.nx], rfl⟩) hz2 (fun b _ => ?_) fun out hlen hout => ?_
  · show PySem.W.alike (.tuple (b.2.row.map .int)) (.tuple (b'.2.row.map .int)) = true
    rw [PySem.W.alike]
    exact PySem.W.alike_ints _ _
  · have d : (encW b).depth ≤ 10 := by
      show (PyData.tuple (b.2.row.map PyData.int)).depth ≤ 10
      rw [PyData.depth, PySem.W.depth_ints]
      decide
    omega
  · have e2 := of_each hout
    obtain ⟨c, hc⟩ := sortedAll_at s.heap ((ps.map (·.1)).map Value.ref) out.toArray
    have hp := List.mergeSort_perm ps (PySem.W.dataLe false encW)
    have hw : (((ps.mergeSort (PySem.W.dataLe false encW)).map (·.2)).map Way.key).Pairwise (· ≤ ·) := by
      have h1 := List.pairwise_mergeSort (le := PySem.W.dataLe false encW) (fun a b c h1 h2 => ?_) (fun a b => ?_) ps
      · rw [List.map_map]
        refine List.pairwise_map.mpr (List.Pairwise.imp_of_mem (fun {a b} ma mb hab => ?_) h1)
        rw [le_row, decide_eq_true_eq] at hab
        have fa := (ht a (hp.mem_iff.mp ma)).2
        have fb := (ht b (hp.mem_iff.mp mb)).2
        have n : ¬ b.2.key < a.2.key := fun z => List.not_lt.mpr hab ((row_lt fb fa).mpr z)
        show a.2.key ≤ b.2.key
        omega
      · rw [le_row, decide_eq_true_eq] at h1 h2 ⊢
        exact List.le_trans h1 h2
      · rw [le_row, le_row, Bool.or_eq_true, decide_eq_true_eq, decide_eq_true_eq]
        exact List.le_total _ _
    refine ⟨.ref (s.heap.objs.size + 1), upd H (s.heap.objs.size + 1) (.lst (refs ((ps.mergeSort (PySem.W.dataLe false encW)).map (·.1)))), I.laid (t' := s.toks) (fun _ _ => sortedAll_old) (Nat.le_succ _) ⟨?_, out, c, ?_, hc⟩, rfl, q _ _ hp hw (I.hok.fresh (Nat.le_succ _))⟩
    · rw [refs, List.length_map, List.length_map, hp.length_eq]
      exact hz2
    · rw [e2]
      exact vals_refs _
end
/-! ### zip of a list and a tuple -/
/-- the list at a, the tuple at b, an item of each in a new pair -/
def Itm (K : PySem.W.Frag) (a b : Addr) (xs ys : List V) : It :=
  ⟨fun i H => SqL K H a xs ∧ SqT K H b ys ∧ i < min xs.length ys.length, fun i H v H' => ∃ T x y, v = .ref T ∧ H T = none ∧ H' = upd H T (.tup [x, y]) ∧ xs[i]? = some x ∧ ys[i]? = some y, fun i H => SqL K H a xs ∧ SqT K H b ys ∧ min xs.length ys.length ≤ i⟩
/-- how the zip at z stands before its i-th turn -/
def ZipSt (z TI TO i1 i2 a b : Addr) (n : Nat) (i : Nat) (h : Heap) : Prop :=
  i ≤ n ∧ IsZip h z TI TO .none ∧ IsTupOf2 h TI (.ref i1) (.ref i2) ∧ (∃ x y, IsTupOf2 h TO x y) ∧ h.IsListIter i1 a i ∧ h.IsTupleIter i2 b i
theorem in5 {c z TI TO i1 i2 : Addr} (h : c ∈ [z, TI, TO, i1, i2]) : c = z ∨ c = TI ∨ c = TO ∨ c = i1 ∨ c = i2 := by simpa using h
theorem turn_zipM {P : Program} {w : World} {K : PySem.W.Frag} {elts : List Expr} {kk : Nat} {tpos : Pos} {a b z TI TO i1 i2 : Addr} {xs ys : List V} (S : ZipSep2 z TI TO i1 i2 [i1, a] [i2, b]) (na : a ≠ i1) (nb : b ≠ i2) :
    Turn P w K (.Tuple elts kk tpos) (Itm K a b xs ys) [z, TI, TO, i1, i2] z (ZipSt z TI TO i1 i2 a b (min xs.length ys.length)) where
  mem := by simp
  obj := fun i h st c hc => by
    obtain ⟨_, hz, hTI, ⟨x, y, hTO⟩, ⟨o1, e1, _, d1⟩, ⟨o2, e2, _, d2⟩⟩ := st
    rcases in5 hc with q | q | q | q | q <;> rw [q]
    · exact ⟨_, hz, fun v q => nomatch q⟩
    · exact ⟨_, hTI, fun v q => nomatch q⟩
    · exact ⟨_, hTO, fun v q => nomatch q⟩
    · exact ⟨o1, e1, fun v q => by rw [d1] at q; cases q⟩
    · exact ⟨o2, e2, fun v q => by rw [d2] at q; cases q⟩
  keep := fun i h h' st k => by
    obtain ⟨hi, hz, hTI, ⟨x, y, hTO⟩, h1, h2⟩ := st
    exact ⟨hi, k z (by simp) _ hz, k TI (by simp) _ hTI, ⟨x, y, k TO (by simp) _ hTO⟩, h1.at fun o q => k i1 (by simp) o q, h2.at fun o q => k i2 (by simp) o q⟩
  item := by
    intro X hP hw hK hc i pins s σ H E I hf st hg
    subst hP hw hK
    obtain ⟨hqx, hqy, hlt⟩ := hg
    obtain ⟨_, hz, hTI, hTO, h1, h2⟩ := st
    obtain ⟨its, rv, p, _⟩ := I.list hqx
    obtain ⟨its2, rv2, p2, _⟩ := I.tuple hqy
    have l1 : its.toArray.size = xs.length := by rw [List.size_toArray, rv.length]
    have l2 : its2.toArray.size = ys.length := by rw [List.size_toArray, rv2.length]
    have hh : X.A.in1.handled = none := I.ok.hd hc
    have W := GoesN.zip2 (A := X.A) (elts := elts) (x1 := kk) (pos := tpos) S (Draws.list (prog := X.prog) (w := X.w) hh i1 a na its.toArray) (Draws.tuple (prog := X.prog) (w := X.w) hh i2 b nb its2.toArray)
    refine wpAny_mono (W.goes i s (fun v s2 => ∃ x H', Inv X pins σ H' s2 ∧ RelV x v ∧ (Itm X.K a b xs ys).yld i H x H' ∧ ZipSt z TI TO i1 i2 a b (min xs.length ys.length) (i + 1) s2.heap ∧ ∀ c ∈ [z, TI, TO, i1, i2], H' c = none) E (by rw [l1, l2]; exact hlt) ⟨hz, hTI, hTO, ⟨h1, p.isList⟩, h2, p2⟩ ?_) (fun r s1 h => h) fun _ _ e => e
    intro v h' tk hY st' hk htk
    obtain ⟨T, u, u2, rfl, hT, hu, hu2, hTup⟩ := hY
    obtain ⟨z1, z2, z3, ⟨z4, _⟩, z5, _⟩ := st'
    obtain ⟨x, hx, rx⟩ : ∃ x, xs[i]? = some x ∧ RelV x u := by
      have hi : i < xs.length := by omega
      obtain ⟨u', e1, r1⟩ := rv.get (List.getElem?_eq_getElem hi)
      have e2 : its[i]? = some u := by simpa using hu
      rw [e2] at e1
      cases e1
      exact ⟨_, List.getElem?_eq_getElem hi, r1⟩
    obtain ⟨y, hy, ry⟩ : ∃ y, ys[i]? = some y ∧ RelV y u2 := by
      have hi : i < ys.length := by omega
      obtain ⟨u', e1, r1⟩ := rv2.get (List.getElem?_eq_getElem hi)
      have e2 : its2[i]? = some u2 := by simpa using hu2
      rw [e2] at e1
      cases e1
      exact ⟨_, List.getElem?_eq_getElem hi, r1⟩
    have new : ObjOk X.prog X.w (upd H T (.tup [x, y])) h' T (.tup [x, y]) := ⟨by show 2 ≤ sizeLine; decide, [u, u2], .cons rx (.cons ry .nil), hTup⟩
    have I1 : Inv X pins σ (upd H T (.tup [x, y])) { s with heap := h', toks := tk } :=
      I.turnedNew (t' := tk) (ch := [z, TI, TO, i1, i2]) (fun c o hb q => hk c o (fun q' => hb (by simp at q' ⊢; rcases q' with q' | q' | q' | q' <;> simp [q'])) q) hf hT new
    refine ⟨.ref T, _, I1, rfl, ⟨T, x, y, rfl, I.hok.fresh hT, rfl, hx, hy⟩, ⟨hlt, z1, z2, z3, z4, z5⟩, fun c hcm => ?_⟩
    have hl : c < s.heap.objs.size := by
      rcases in5 hcm with q | q | q | q | q <;> rw [q]
      · exact Heap.lt_size hz
      · exact Heap.lt_size hTI
      · obtain ⟨_, _, e⟩ := hTO; exact Heap.lt_size e
      · obtain ⟨_, e, _⟩ := h1; exact Heap.lt_size e
      · obtain ⟨_, e, _⟩ := h2; exact Heap.lt_size e
    rw [upd_ne (Nat.ne_of_lt (Nat.lt_of_lt_of_le hl hT))]
    exact (hf c hcm).1
  done := by
    intro X hP hw hK hc i pins s σ H E I hf st hg
    subst hP hw hK
    obtain ⟨hqx, hqy, hle⟩ := hg
    obtain ⟨hi, hz, hTI, hTO, h1, h2⟩ := st
    obtain ⟨its, rv, p, _⟩ := I.list hqx
    obtain ⟨its2, rv2, p2, _⟩ := I.tuple hqy
    have l1 : its.toArray.size = xs.length := by rw [List.size_toArray, rv.length]
    have l2 : its2.toArray.size = ys.length := by rw [List.size_toArray, rv2.length]
    have hh : X.A.in1.handled = none := I.ok.hd hc
    have W := GoesN.zip2 (A := X.A) (elts := elts) (x1 := kk) (pos := tpos) S (Draws.list (prog := X.prog) (w := X.w) hh i1 a na its.toArray) (Draws.tuple (prog := X.prog) (w := X.w) hh i2 b nb its2.toArray)
    have ei : min its.toArray.size its2.toArray.size = i := by rw [l1, l2]; omega
    rw [ei] at W
    exact W.stops s (fun s1 => Inv X pins σ H s1) E ⟨hz, hTI, hTO, ⟨h1, p.isList⟩, h2, p2⟩ fun h' tk hk htk =>
      I.turnedL (t' := tk) (ch := [z, TI, TO, i1, i2]) (fun c o hb q => hk c o (fun q' => hb (by simp at q' ⊢; rcases q' with q' | q' | q' | q' <;> simp [q'])) q) hf
  self := fun A i s Q E st h => wpAny_pyIter_zip st.2.1 h
def iZipM (K : PySem.W.Frag) (ta : TA) : TI := fun σ H R => ta σ H fun vs H1 => ∃ a b xs ys, vs = [.ref a, .ref b] ∧ SqL K H1 a xs ∧ SqT K H1 b ys ∧ R (Itm K a b xs ys) H1
theorem pi_zipM {X : Cx} {e e2 : Expr} {ta : TA} {p pos tpos : Pos} {elts : List Expr} {kk : Nat} (hg : Gl X "zip") (hm : X.mg "zip" = none) (ha : PA X [e, e2] ta)
    (hs : starEach [e, e2] X.env = (false, eval e X.env) :: starEach [e2] X.env := by rfl) (hpl : (backTo pos (starEach [e2] X.env)).any (·.1) = false := by rfl) :
    PI X (.Tuple elts kk tpos) (.Call (.Name "zip" p) [e, e2] [] pos) (iZipM X.K ta) := by
  refine ⟨fun pins s σ H R I h => ?_⟩
  refine Call_ (ld_blt I hg hm PyProof.Rows.boot_zip (PyProof.Rows.callWith_type1 (thn (ha.run pos pins s σ H _ I h) fun us s1 ⟨vs, H1, I1, r1, q1⟩ => ?_) hs hpl))
  obtain ⟨a, b, xs, ys, ex, hqx, hqy, q⟩ := q1
  subst ex
  cases r1 with
  | cons r rr =>
    cases rr with
    | cons r' rr =>
      cases rr
      cases r
      cases r'
      obtain ⟨its, rv, p1, _⟩ := I1.list hqx
      obtain ⟨its2, rv2, p2, _⟩ := I1.tuple hqy
      obtain ⟨o2, ho2, _⟩ := id p2
      have la : a < s1.heap.objs.size := p1.lt
      have lb : b < s1.heap.objs.size := Heap.lt_size ho2
      refine zip_begins2 (begins_list a its.toArray) (begins_tuple b its2.toArray) p1.isList p2 fun h' hz hTI hTO ho1 ho2' hsz hk => wpAny_pyIter_zip hz ?_
      have I2 : Inv X pins σ H1 { s1 with heap := h' } := I1.kept (t' := s1.toks) hk
      refine ⟨s1.heap.objs.size + 4, [s1.heap.objs.size + 4, s1.heap.objs.size + 2, s1.heap.objs.size + 3, s1.heap.objs.size, s1.heap.objs.size + 1], _, _, H1, rfl, I2,
        turn_zipM (zip_sep2 (fun c hc => by rw [List.mem_singleton] at hc; rw [hc]; exact la) (fun c hc => by rw [List.mem_singleton] at hc; rw [hc]; exact lb)) (Nat.ne_of_lt la) (Nat.ne_of_lt (Nat.lt_succ_of_lt lb)),
        ⟨Nat.zero_le _, hz, hTI, ⟨_, _, hTO⟩, ⟨_, ho1, rfl, rfl⟩, ⟨_, ho2', rfl, rfl⟩⟩, fun c hcm => ?_, q⟩
      have hle : s1.heap.objs.size ≤ c := by
        rcases in5 hcm with z | z | z | z | z <;> rw [z]
        · exact Nat.le_add_right _ _
        · exact Nat.le_add_right _ _
        · exact Nat.le_add_right _ _
        · exact Nat.le_refl _
        · exact Nat.le_add_right _ _
      exact I1.fpOk hle (I1.hok.fresh hle)
theorem lc_zipM {K : PySem.W.Frag} {a b : Addr} {xs ys : List V} {g : TG} {tt : TT} {te : TE} {vs : List Nat} {σ : L2.St} {H1 : Hp} {D : Addr} {Qd : Hp → Prop} (Pv : Nat → Hp → Prop) (h0 : Pv 0 (upd H1 D (.lst []))) (hl : ∀ i H, Pv i H → SqL K H a xs ∧ SqT K H b ys)
    (hs : ∀ (i : Nat) (x y : V) (T : Addr) (H : Hp), xs[i]? = some x → ys[i]? = some y → Pv i H → H T = none → g (.ref T) (wipe σ vs) (upd H T (.tup [x, y])) fun σ2 H2 => wipe σ2 vs = wipe σ vs ∧ tt σ2 H2 fun b H3 =>
      if b = true then te σ2 H3 fun y H4 => ∃ acc, H4 D = some (.lst acc) ∧ acc.length < sizeLine ∧ Pv (i + 1) (upd H4 D (.lst (acc ++ [y]))) else Pv (i + 1) H3) (hd : ∀ H, Pv (min xs.length ys.length) H → Qd H) :
    ∃ W : Nat → Nat → Hp → Prop, (∃ m, W 0 m (upd H1 D (.lst []))) ∧ ∀ i m H, W i m H →
      ((Itm K a b xs ys).stop i H ∧ Qd H) ∨ ((Itm K a b xs ys).go i H ∧ ∃ Nx : Hp → Prop, (∀ H', Nx H' → ∃ m', m' < m ∧ W (i + 1) m' H') ∧ ∀ x H', (Itm K a b xs ys).yld i H x H' → g x (wipe σ vs) H' fun σ2 H2 => wipe σ2 vs = wipe σ vs ∧ tt σ2 H2 fun b H3 =>
        if b = true then te σ2 H3 fun y H4 => ∃ acc, H4 D = some (.lst acc) ∧ acc.length < sizeLine ∧ Nx (upd H4 D (.lst (acc ++ [y]))) else Nx H3) := by
  refine ⟨fun i m H => m = min xs.length ys.length - i ∧ i ≤ min xs.length ys.length ∧ Pv i H, ⟨_, rfl, Nat.zero_le _, h0⟩, ?_⟩
  rintro i m H ⟨rfl, hi, pv⟩
  obtain ⟨q1, q2⟩ := hl i H pv
  by_cases hlt : i < min xs.length ys.length
  · refine .inr ⟨⟨q1, q2, hlt⟩, Pv (i + 1), fun H' p' => ⟨min xs.length ys.length - (i + 1), by omega, rfl, hlt, p'⟩, fun v H' yl => ?_⟩
    obtain ⟨T, x, y, rfl, hT, rfl, hx, hy⟩ := yl
    exact hs i x y T H hx hy pv hT
  · have e : i = min xs.length ys.length := by omega
    rw [e] at pv
    exact .inl ⟨⟨q1, q2, by omega⟩, hd H pv⟩
end K3
/-! name = {k: v for target in iter}, the keys tuples of ints. -/
namespace K3
open PySem PySem.Spec PyProof.Rows L2
section
variable {X : Cx}
/-- D[k] = v while the dict is made, k a tuple -/
theorem set_tupKey {pins : List (Addr × Obj)} {σ : L2.St} {H : Hp} {s : Shared} {E : Value → Shared → Prop} {D b : Addr} {kvs : List (List Key × V)} {k : List Key} {v : V} {r : Value} {Q : Unit → Shared → Prop} (hu : X.A.units + 1 < cLine) (I : Inv X pins σ H s) (hD : H D = some (.dT kvs))
    (hb : H b = some (.tup (k.map kV))) (hz : kvs.length < sizeLine) (rv : RelV v r) (h : ∀ s', Inv X pins σ (upd H D (.dT (putK kvs k v))) s' → Q () s') : wpAny (model X.prog X.w) X.A (dictSet D (.ref b) r) Q E s := by
  obtain ⟨z, hd, xs, rel, dd⟩ := dt_of I.hok hD
  have hl : (putK kvs k v).length ≤ sizeLine := by
    have := length_putK kvs k v
    omega
  have room : (tupleKind (mixKind X.prog X.w)).room X.A := by
    show X.A.units < cLine
    omega
  refine wpAny_dictSet_heap (hsz := by rw [← Paired.length rel]; exact z) room (key_of I.hok hb) dd fun h' dd' hs => h _ ?_
  obtain ⟨q, es, ep, hq, h2, h3, h4, _, h5⟩ := dd'
  refine d_write I (by rw [hD]; exact True.intro) hs ⟨q, hq⟩ ⟨hl, hd, _, (rel.put k hb rv).keeps fun c ys ec => ?_, q, es, ep, hq, h2, h3, h4, h5⟩
  rw [upd_ne (ne_of ec hD (fun z => nomatch z))]
  exact ec
/-- the reading: D the new dict; W the invariant by the turn and a measure -/
def tDcT (wi : TI) (g : TG) (tk tv : TE) (vs : List Nat) : TE := fun σ H Q => wi σ H fun J H1 => ∀ D, H1 D = none → ∃ W : Nat → Nat → Hp → Prop, (∃ m, W 0 m (upd H1 D (.dT []))) ∧ ∀ i m H, W i m H →
  (J.stop i H ∧ Q (.ref D) H) ∨ (J.go i H ∧ ∃ Nx : Hp → Prop, (∀ H', Nx H' → ∃ m', m' < m ∧ W (i + 1) m' H') ∧ ∀ x H', J.yld i H x H' → g x (wipe σ vs) H' fun σ2 H2 => wipe σ2 vs = wipe σ vs ∧
    tk σ2 H2 fun y H3 => tv σ2 H3 fun z H4 => ∃ kvs k b, y = .ref b ∧ H4 b = some (.tup (k.map kV)) ∧ H4 D = some (.dT kvs) ∧ kvs.length < sizeLine ∧ Nx (upd H4 D (.dT (putK kvs k z))))
/-- a block's context, as the layer's judgements want it -/
abbrev Blk (X : Cx) (scope : Scope) (R : Cx → Prop) : Prop := ∀ (s : Shared) (H : Hp) (C : Addr) (cl : List (Str × Addr)) (fp : List Addr), R (X.blk s H scope (compEnvC scope cl C X.env) fp)
theorem ps_setDcT {i : Nat} {y : Str} {py : Pos} {kx vx tg iter : Expr} {scope : Scope} {own : List (Str × Nat)} {pos spos : Pos} {wi : TI} {g : TG} {tk tv : TE} (hu : X.A.units + 1 < cLine) (hc : X.calm = true) (hN : X.N.Nodup) (hy : X.N[i]? = some y) (hyl : X.env.scope.names.lookup y = some .local)
    (hsw : swapsWith (.DictComp kx vx [⟨tg, iter, [], 0⟩] scope pos) (some (.Name y py)) spos.line X.env = pure true) (hi : PI X tg iter wi) (ok : BlkOk X.N X.env.scope scope own)
    (hg : Blk X scope fun B => PG B tg g) (hk : Blk X scope fun B => PE B kx tk) (he : Blk X scope fun B => PE B vx tv) (hs : ∀ x, foldedSetIterable iter X.env x = pure x := by intro _; rfl) :
    PS X (.Assign [.Name y py] (.DictComp kx vx [⟨tg, iter, [], 0⟩] scope pos) spos) (tAsg (tDcT wi g tk tv (own.map (·.2))) (gName i)) := by
  refine ⟨fun pins s σ H D I h => ?_⟩
  rw [exec_Assign_Name_used _ _ _ _ hsw]
  refine wpAny_bind (wpAny_standAt (wpAny_bind ?_))
  show wpAny _ X.A (do let _ ← comprehension (.DictComp kx vx [⟨tg, iter, [], 0⟩] scope pos) scope X.env (firstIterPos [⟨tg, iter, [], 0⟩] pos) newDict false (eval iter X.env) (some (assign (.Name y py) X.env))) _ _ s
  have h : tDcT wi g tk tv (own.map (·.2)) σ H (fun x H1 => gName i x σ H1 D.nx) := h
  refine wpAny_bind (thn (Q := fun _ s' => SP X pins D .next s') ?_ fun _ s' hq => wpAny_pure (wpAny_pure hq))
  have free : ∀ z ∈ scope.names, z.2 = .free → ∃ c, X.env.cells.lookup z.1 = some c := fun z hz e => (ok.free z hz e).elim (fun k => I.ok.has _ (.inl k)) fun k => I.ok.has _ (.inr k)
  refine wpAny_comprehension_free (use := some (assign (.Name y py) X.env)) rfl hs (closure_ok free) ok.kind (fun z hz e => by rw [ok.uniq z hz, e]) (thn (hi.run pins s σ H _ I h) fun xv s1 hx => thn hx fun itv s2 h2 => ?_)
  obtain ⟨it, fp, tn, J, H2, rfl, I2, T, st2, f2, q⟩ := h2
  refine wpAny_newObj_type (newEnv_comp ?_)
  -- the dict that is made stands at L, tracked and bare; the block's own names behind it
  generalize hL : s2.heap.objs.size = L
  have nL : H2 L = none := I2.hok.fresh (Nat.le_of_eq hL)
  obtain ⟨W, ⟨m0, w0⟩, turn⟩ := q L nL
  generalize es3 : ({ s2 with heap := s2.heap.push { cls := .type "dict", data := .dict #[] } } : Shared) = s3
  have I3 : Inv X pins σ (upd H2 L (.dT [])) s3 := by
    subst es3
    subst hL
    exact I2.laid (t' := s2.toks) (fun b o e => Heap.get?_push_of_some _ e) (Nat.le_refl _) (dt_empty s2.heap I2.big)
  have hp3 : s3.heap = s2.heap.push { cls := .type "dict", data := .dict #[] } := by rw [← es3]
  have old : ∀ b ∈ fp, b < s2.heap.objs.size := fun b hb => let ⟨_, e, _⟩ := T.obj _ _ st2 b hb; Heap.lt_size e
  have f3 : ∀ b ∈ fp, FpOk X pins (upd H2 L (.dT [])) b ∧ b < s3.heap.objs.size := fun b hb =>
    ⟨⟨by rw [upd_ne (by rw [← hL]; exact Nat.ne_of_lt (old b hb))]; exact (f2 b hb).1, (f2 b hb).2⟩, by rw [hp3, Heap.size_push]; exact Nat.lt_succ_of_lt (old b hb)⟩
  have st3 : tn 0 s3.heap := T.keep _ _ _ st2 fun b _ o e => by rw [hp3]; exact Heap.get?_push_of_some _ e
  have I4 := block_start I3 ok hN f3
  have n3 : ∀ b ∈ fp, (upd H2 L (.dT [])) b = none := fun b hb => (f3 b hb).1.1
  generalize eC : s3.heap.objs.size = C at I4 ⊢
  generalize ecl : cellsFrom (C + 1) scope.names (cloFrom X.env.cells scope.names []) = cl at I4 ⊢
  have pg := hg s3 (upd H2 L (.dT [])) C cl fp
  have pk := hk s3 (upd H2 L (.dT [])) C cl fp
  have pe := he s3 (upd H2 L (.dT [])) C cl fp
  generalize eH : upd H2 L (.dT []) = H3 at I3 I4 pg pk pe w0 n3 f3
  show codeAny _ _ (.compStart (.DictComp kx vx [⟨tg, iter, [], 0⟩] scope pos) 0 (.ref it) (.ref L) (compEnvC scope cl C X.env)) (compPost (model X.prog X.w) X.A X.xe (some (assign (.Name y py) X.env)) (fun _ s' => SP X pins D .next s') (.ref L) C) { s3 with heap := pushCells (s3.heap.push { cls := .type "dict", data := .dict #[] }) scope.names }
  generalize ece : compEnvC scope cl C X.env = ce at I4 pg pk pe ⊢
  have ceL : ce.locals = C := by subst ece; rfl
  generalize es4 : ({ s3 with heap := pushCells (s3.heap.push { cls := .type "dict", data := .dict #[] }) scope.names } : Shared) = s4 at I4 ⊢
  have st4 : tn 0 s4.heap := T.keep _ _ _ st3 fun b _ o e => by rw [← es4]; exact pushCells_keeps _ _ _ _ (Heap.get?_push_of_some _ e)
  have its : ∀ {σ' : L2.St} {H' : Hp} {s' : Shared}, Inv (X.blk s3 H3 scope ce fp) [] σ' H' s' → (∀ b ∈ fp, H' b = none) → ∀ b ∈ fp, FpOk (X.blk s3 H3 scope ce fp) [] H' b := fun {σ' H' s'} I' hn b hb =>
    ⟨hn b hb, (I'.ok.exf b hb).1, I'.ok.exfs b hb, .inl hb, fun x c e => (I'.ok.exf b hb).2 x c e, fun p hp => by cases hp⟩
  have loop : codeAny (model X.prog X.w) X.A (.compLoop (.DictComp kx vx [⟨tg, iter, [], 0⟩] scope pos) 0 (.ref it) (.ref L) ce) (compPost (model X.prog X.w) X.A X.xe (some (assign (.Name y py) X.env)) (fun _ s' => SP X pins D .next s') (.ref L) C) s4 := by
    refine compLoop_anyD (fun n s' => ∃ i H', Inv (X.blk s3 H3 scope ce fp) [] (wipe σ (own.map (·.2))) H' s' ∧ tn i s'.heap ∧ (∀ b ∈ fp, H' b = none) ∧ W i n H') ?_ m0 ⟨0, H3, I4, st4, n3, w0⟩
    rintro n s5 ⟨j, H5, I5, st5, n5, w5⟩
    rcases turn j n H5 w5 with ⟨stop, qq⟩ | ⟨go, Nx, hNx, step⟩
    · -- the walk's end: the dict goes to the name
      refine thnF (T.done (X.blk s3 H3 scope ce fp) rfl rfl rfl hc j [] s5 _ H5 (fun _ _ => False) I5 (its I5 n5) st5 stop) fun r s6 ⟨hr, I6⟩ => ?_
      subst hr
      have I7 : Inv X pins σ H5 s6 := I3.call' (ch := fp) I6.os I6.base I6.hok I6.bare fun b hb => ⟨(f3 b hb).1.2.2.2.1, (f3 b hb).1.2.1, (f3 b hb).1.2.2.2.2.1, (f3 b hb).1.2.2.2.2.2⟩
      have nC : H5 C = none := ceL ▸ I6.free
      obtain ⟨m, hn, _⟩ := I6.loc
      have hn : s6.heap.Ns ce.locals m := hn
      rw [ceL] at hn
      show wpAny _ _ (assign (.Name y py) X.env (.ref L)) _ _ _
      refine wpAny_assign_Name (store_ok2 (v := V.ref L) I7 hN hy (.inl hyl) rfl (fun s7 I8 ⟨a, sb, ha⟩ => ?_) (.inr hyl))
      obtain ⟨g0, g1, _, g3, g4, g5⟩ := I3.fpOk (Nat.le_of_eq eC) nC
      have nCa : C ≠ a := ha.elim (fun z => by rw [z]; exact g1) fun z e => g4 y a z e.symm
      exact ⟨m, hn.sameBut sb nCa, fun h3 sb3 => ⟨_, H5, I8.turned (t' := s7.toks) (fun b o hb e => (sb3.2 b hb).trans e) g0 g1 g3 g4 g5, qq⟩⟩
    · -- a turn
      refine thnF (T.item (X.blk s3 H3 scope ce fp) rfl rfl rfl hc j [] s5 _ H5 (fun _ _ => False) I5 (its I5 n5) st5 go) fun r s6 ⟨u, hr, h6⟩ => ?_
      subst hr
      refine thnF h6 fun _ s7 ⟨x, H7, I7, r7, y7, st7, n7⟩ => ?_
      refine thnF (pg.run _ s7 _ H7 x u _ (I7.pinned (its I7 n7) (T.obj _ _ st7)) r7 (step x H7 y7)) fun _ s8 ⟨σ8, H8, I8, hw8, q8⟩ => ?_
      show wpAny _ _ (pure true) _ _ _
      refine wpAny_pure ?_
      simp only [if_true]
      refine thnF (pk.run _ s8 σ8 H8 _ I8 q8) fun zk s9 ⟨vk, H9, I9, r9, q9⟩ => ?_
      refine thnF (pe.run _ s9 σ8 H9 _ I9 q9) fun zv s10 ⟨vv, H10, I10, r10, kvs, k, b, ek, hb, hD, hz, nx⟩ => ?_
      subst ek
      cases (show zk = Value.ref b from r9)
      refine set_tupKey (X := X.blk s3 H3 scope ce fp) hu I10 hD hb hz r10 fun s11 I11 => ?_
      obtain ⟨m', hm, w'⟩ := hNx _ nx
      have pin : ∀ b ∈ fp, ∀ o, s7.heap.get? b = some o → s11.heap.get? b = some o ∧ (upd H10 L (.dT (putK kvs k vv))) b = none := fun b hb o e =>
        let z := I11.pin (b, o) (List.mem_append_right _ (List.mem_append_right _ (mem_pinsAt hb e)))
        ⟨z.1, z.2.1⟩
      refine ⟨m', hm, j + 1, _, (I11.unpinned (pins := [])).weak (by rw [← hw8, wipe_length]) (fun a v e => ?_), T.keep _ _ _ st7 fun b hb o e => (pin b hb o e).1, fun b hb => ?_, w'⟩
      · rw [← hw8] at e
        exact (wipe_some e).1
      · obtain ⟨o, e, _⟩ := T.obj _ _ st7 b hb
        exact (pin b hb o e).2
  exact codeAny_compStart_dict loop (T.self X.A 0 _ _ _ st4 loop)
/-- y = {..} is the model's other statement -/
theorem sw_dict {kx vx : Expr} {gs : List Comprehension} {scope : Scope} {pos py : Pos} {y : Str} {l : Nat} {env : Env} (hk : env.scope.kind = .function) (hy : env.scope.names.lookup y = some .local) (hl : (py.line == pos.line) = true)
    (ha : (scope.names.any fun (n, k) => n == y && (k == .local || k == .cell)) = false) : swapsWith (.DictComp kx vx gs scope pos) (some (.Name y py)) l env = pure true := by
  have e1 : env.kindOf y = some .local := hy
  have e2 : env.blockKind = .function := by unfold Env.blockKind; rw [hk]; rfl
  unfold swapsWith
  simp only [e2, e1, ha, Expr.pos, hl]
  rfl
/-- over a list that stays -/
theorem dcT_list {K : PySem.W.Frag} {a : Addr} {xs : List V} {g : TG} {tk tv : TE} {vs : List Nat} {σ : L2.St} {H1 : Hp} {D : Addr} {Qd : Hp → Prop} (Pv : Nat → Hp → Prop) (h0 : Pv 0 (upd H1 D (.dT []))) (hl : ∀ i H, i ≤ xs.length → Pv i H → SqL K H a xs)
    (hs : ∀ i x H, xs[i]? = some x → Pv i H → g x (wipe σ vs) H fun σ2 H2 => wipe σ2 vs = wipe σ vs ∧
      tk σ2 H2 fun y H3 => tv σ2 H3 fun z H4 => ∃ kvs k b, y = .ref b ∧ H4 b = some (.tup (k.map kV)) ∧ H4 D = some (.dT kvs) ∧ kvs.length < sizeLine ∧ Pv (i + 1) (upd H4 D (.dT (putK kvs k z)))) (hd : ∀ H, Pv xs.length H → Qd H) :
    ∃ W : Nat → Nat → Hp → Prop, (∃ m, W 0 m (upd H1 D (.dT []))) ∧ ∀ i m H, W i m H →
      ((Itl K a).stop i H ∧ Qd H) ∨ ((Itl K a).go i H ∧ ∃ Nx : Hp → Prop, (∀ H', Nx H' → ∃ m', m' < m ∧ W (i + 1) m' H') ∧ ∀ x H', (Itl K a).yld i H x H' → g x (wipe σ vs) H' fun σ2 H2 => wipe σ2 vs = wipe σ vs ∧
        tk σ2 H2 fun y H3 => tv σ2 H3 fun z H4 => ∃ kvs k b, y = .ref b ∧ H4 b = some (.tup (k.map kV)) ∧ H4 D = some (.dT kvs) ∧ kvs.length < sizeLine ∧ Nx (upd H4 D (.dT (putK kvs k z)))) := by
  refine ⟨fun i m H => m = xs.length - i ∧ i ≤ xs.length ∧ Pv i H, ⟨_, rfl, Nat.zero_le _, h0⟩, ?_⟩
  rintro i m H ⟨rfl, hi, p⟩
  have q := hl i H hi p
  by_cases hlt : i < xs.length
  · refine .inr ⟨⟨xs, xs[i], q, by simp [hlt]⟩, Pv (i + 1), fun H' p' => ⟨xs.length - (i + 1), by omega, rfl, hlt, p'⟩, fun x H' yl => ?_⟩
    obtain ⟨rfl, yl⟩ := yl
    exact hs i x _ (yl xs q) p
  · have e : i = xs.length := by omega
    rw [e] at p
    exact .inl ⟨⟨xs, q, by omega⟩, hd H p⟩
end
end K3
/-! is_whole, is_sequence, _is_way, small_number -/
namespace K3
open PySem PySem.Spec PyProof.Rows L2
section
variable {P : Program} {w : World} {K : PySem.W.Frag} {mg : Str → Option Value} {base : Heap}
/-! ### is_whole: asked of what is in its bounds alone -/
def spWhole : Sp := fun vs H Q _ => ∃ n lo hi : Int, vs = [.int n, .int lo, .int hi] ∧ lo ≤ n ∧ n ≤ hi ∧ Q (.bl true) H
theorem sc_whole : FnScope ["thing", "low", "high"] ["thing", "low", "high"] (defScope (top 10)) := ⟨rfl, rfl, rfl, by decide +kernel, rfl, by decide +kernel, by decide +kernel⟩
theorem got_whole (T : Txt K mg) (D : DefAt K mg "is_whole" (top 10)) : Got P w K mg base CX0 1 "is_whole" ["thing", "low", "high"] spWhole := by
  refine got0 D sc_whole (fun _ _ _ _ _ _ us hl => match us, hl with | [_, _, _], _ => rfl) (fun vs H Q E h => ?_) (fun f cdv A outer s H vs Q E hr h => ?_)
  · obtain ⟨n, lo, hi, rfl, _⟩ := h
    rfl
  · obtain ⟨n, lo, hi, rfl, h1, h2, k⟩ := h
    refine ⟨_, pss_one (ps_ret (pe_and (pe_isin T.isin (pv 0) (pe_ty T.int bt_int)) (pe_and (pe_not (pe_isin T.isin (pv 0) (pe_ty T.bool bt_bool))) (pe_one (pe_chain op_le op_le (pv 1) (pv 0) (pv 2)))))), ?_⟩
    refine ⟨_, rfl, _, _, _, _, _, rfl, .ty "int", .base (.int n), kit_ty (by decide +kernel), true, rfl, iteT ?_⟩
    refine ⟨_, rfl, _, _, _, _, false, rfl, .ty "bool", .base (.int n), kit_ty (by decide +kernel), false, rfl, true, rfl, iteT ?_⟩
    refine ⟨_, rfl, _, rfl, _, _, rfl, rfl, _, rfl, ?_⟩
    rw [decide_eq_true h1]
    refine iteT ⟨_, rfl, _, _, rfl, rfl, ?_⟩
    show Q (.bl (decide (n ≤ hi))) H
    rw [decide_eq_true h2]
    exact k
/-! ### is_sequence -/
def spSeq : Sp := fun vs H Q _ => ∃ a : Addr, vs = [.ref a] ∧ ((∃ xs, H a = some (.lst xs)) ∨ ∃ xs, H a = some (.tup xs)) ∧ ∀ H', Same H H' → Q (.bl true) H'
theorem sc_seq : FnScope ["thing"] ["thing"] (defScope (top 11)) := ⟨rfl, rfl, rfl, by decide +kernel, rfl, by decide +kernel, by decide +kernel⟩
theorem kit_lt {K : PySem.W.Frag} {T : String} (h : T = "list" ∨ T = "tuple") : PySem.W.kitAny K (.type T) [.type "list", .type "tuple"] = some true := by
  rcases h with rfl | rfl
  · exact kitAny_cons (b := true) (kit_ty (by decide +kernel)) (fun z => by cases z) fun _ => rfl
  · exact kitAny_cons (b := false) (kit_ty (by decide +kernel)) (fun _ => kitAny_cons (b := true) (kit_ty (by decide +kernel)) (fun z => by cases z) fun _ => rfl) fun z => by cases z
theorem got_seq (T : Txt K mg) (D : DefAt K mg "is_sequence" (top 11)) : Got P w K mg base CX0 1 "is_sequence" ["thing"] spSeq := by
  refine got0 D sc_seq (fun _ _ _ _ _ _ us hl => match us, hl with | [_], _ => rfl) (fun vs H Q E h => ?_) (fun f cdv A outer s H vs Q E hr h => ?_)
  · obtain ⟨a, rfl, _⟩ := h
    rfl
  · obtain ⟨a, rfl, ha, k⟩ := h
    refine ⟨_, pss_one (ps_ret (pe_isinT T.isin (pv 0) (pe_tup (pa_cons (pe_ty T.list bt_list) (pa_cons (pe_ty T.tuple bt_tuple) pa_nil))))), ?_⟩
    refine ⟨_, rfl, (by show 2 ≤ sizeLine; decide), fun p hp => ?_⟩
    have tu : Paired ClsV [V.ty "list", V.ty "tuple"] [Value.type "list", Value.type "tuple"] := .cons (.ty _) (.cons (.ty _) .nil)
    rcases ha with ⟨xs, ha⟩ | ⟨xs, ha⟩
    · exact ⟨_, p, _, _, _, true, rfl, upd_same, tu, .base (.lst (Same.upd hp _ _ ha)), kit_lt (.inl rfl), k _ (Same.upd hp)⟩
    · exact ⟨_, p, _, _, _, true, rfl, upd_same, tu, .base (.tup (Same.upd hp _ _ ha)), kit_lt (.inr rfl), k _ (Same.upd hp)⟩
/-! ### _is_way: asked of ways alone -/
def spIsWay : Sp := fun vs H Q _ => ∃ (p : Addr) (x : Way) (s c : Int), vs = [.ref p, .int s, .int c] ∧ Tup H p x.row ∧ x.ok s c ∧ ∀ H', Same H H' → Q (.bl true) H'
theorem sc_isway : FnScope ["thing", "states", "calls", "state", "call", "answer", "after"] ["thing", "states", "calls"] (defScope (top 12)) := ⟨rfl, rfl, rfl, by decide +kernel, rfl, by decide +kernel, by decide +kernel⟩
theorem got_isway (T : Txt K mg) (D : DefAt K mg "_is_way" (top 12)) (G1 : Got P w K mg base CX0 1 "is_whole" ["thing", "low", "high"] spWhole) (G2 : Got P w K mg base CX0 1 "is_sequence" ["thing"] spSeq) :
    Got P w K mg base CX0 2 "_is_way" ["thing", "states", "calls"] spIsWay := by
  obtain ⟨f1, fd1, F1, m1, k1, b1⟩ := G1
  obtain ⟨f2, fd2, F2, m2, k2, b2⟩ := G2
  refine got0 D sc_isway (fun _ _ _ _ _ _ us hl => match us, hl with | [_, _, _], _ => rfl) (fun vs H Q E h => ?_) (fun f cdv A outer s H vs Q E hr h => ?_)
  · obtain ⟨a, x, s, c, rfl, _⟩ := h
    rfl
  · obtain ⟨p, x, s, c, rfl, hp, hx, k⟩ := h
    refine ⟨_, pss_cons (ps_if (PW.pt (pw_or (pt_not (pt_val (pe_call F2 hr rfl m2 k2 b2 .nil pass0 (pa_cons (pv 0) pa_nil)))) (pw_or1 (pt_cmpR op_ne (pe_len T.len (pv 0)) pe_int (nomark _))))) (pss_one (ps_ret pe_bl)) pss_nil)
      (pss_cons (ps_asg (pv 0) (pg_tup rfl (pgs_cons (pg_name (i := 3) sc_isway.nd rfl (.inl rfl)) (pgs_cons (pg_name (i := 4) sc_isway.nd rfl (.inl rfl)) (pgs_cons (pg_name (i := 5) sc_isway.nd rfl (.inl rfl)) (pgs_cons (pg_name (i := 6) sc_isway.nd rfl (.inl rfl)) pgs_nil))))))
      (pss_cons (ps_if (PW.pt (pw_or (pt_not (pt_val (pe_call F1 hr rfl m1 k1 b1 .nil pass0 (pa_cons (pv 3) (pa_cons pe_int (pa_cons (pe_op op_sub (pv 1) pe_int) pa_nil))))))
          (pw_or1 (pt_not (pt_val (pe_call F1 hr rfl m1 k1 b1 .nil pass0 (pa_cons (pv 4) (pa_cons pe_int (pa_cons (pe_op op_sub (pv 2) pe_int) pa_nil))))))))) (pss_one (ps_ret pe_bl)) pss_nil)
      (pss_one (ps_ret (pe_and (pe_call F1 hr rfl m1 k1 b1 .nil pass0 (pa_cons (pv 5) (pa_cons pe_int (pa_cons (pe_op op_sub (pe_num T.mAnswers) pe_int) pa_nil))))
        (pe_one (pe_call F1 hr rfl m1 k1 b1 .nil pass0 (pa_cons (pv 6) (pa_cons pe_int (pa_cons (pe_op op_sub (pv 1) pe_int) pa_nil)))))))))), ?_⟩
    obtain ⟨x1, x2, x3, x4⟩ := hx
    -- is it a sequence of four
    refine ⟨_, rfl, p, rfl, .inr ⟨_, hp⟩, fun H1 s1 => ⟨true, rfl, iteF ?_⟩⟩
    refine ⟨_, rfl, p, _, rfl, .inr (hp.same s1).t, rfl, _, rfl, iteNS rfl ?_⟩
    -- its four items
    refine ⟨_, rfl, p, _, rfl, (hp.same s1).t, rfl, _, _, rfl, _, _, rfl, _, _, rfl, _, _, rfl, rfl, ?_⟩
    refine ⟨_, rfl, _, rfl, _, _, rfl, rfl, x.st, 0, s - 1, rfl, x1.1, by omega, _, rfl, iteF ?_⟩
    refine ⟨_, rfl, _, rfl, _, _, rfl, rfl, x.ca, 0, c - 1, rfl, x2.1, by omega, _, rfl, iteF ?_⟩
    refine ⟨_, rfl, _, _, rfl, rfl, x.an, 0, 3 - 1, rfl, x3.1, by omega, _, rfl, iteT ?_⟩
    exact ⟨_, rfl, _, rfl, _, _, rfl, rfl, x.nx, 0, s - 1, rfl, x4.1, by omega, k _ s1⟩
/-! ### small_number -/
def optV : Option Int → V
  | none => .non
  | some n => .int n
def spSmall : Sp := fun vs H Q _ => ∃ (z : Str) (lo hi : Int), vs = [.str z, .int lo, .int hi] ∧ z.length ≤ sizeLine ∧ Q (optV (smallN z lo hi)) H
theorem sc_small : FnScope ["word", "low", "high", "number"] ["word", "low", "high"] (defScope (top 20)) := ⟨rfl, rfl, rfl, by decide +kernel, rfl, by decide +kernel, by decide +kernel⟩
def figs : Str := "0123456789"
theorem figs_tl : TL.tl figs = [48, 49, 50, 51, 52, 53, 54, 55, 56, 57] := by decide +kernel
theorem figs_index : ∀ c < 10, Builtin.Str.occurrences figs ⟨#[48 + c]⟩ 0 figs.length 1 = [c] := by decide +kernel
theorem got_small (T : Txt K mg) (D : DefAt K mg "small_number" (top 20)) : Got P w K mg base CX0 1 "small_number" ["word", "low", "high"] spSmall := by
  refine got0 D sc_small (fun _ _ _ _ _ _ us hl => match us, hl with | [_, _, _], _ => rfl) (fun vs H Q E h => ?_) (fun f cdv A outer s H vs Q E hr h => ?_)
  · obtain ⟨z, lo, hi, rfl, _⟩ := h
    rfl
  · obtain ⟨z, lo, hi, rfl, hz, k⟩ := h
    obtain ⟨tf, ef⟩ := T.figures
    refine ⟨_, pss_cons (ps_if (PW.pt (pw_or (pt_cmpR op_ne (pe_lenS T.len (pv 0)) pe_int (nomark _)) (pw_or1 (pt_cmpR op_notIn_sign (pv 0) (pe_glob (v := .str figs) rfl ef ⟨tf, rfl⟩) rfl)))) (pss_one (ps_ret pe_non)) pss_nil)
      (pss_cons (ps_set (i := 3) sc_small.nd rfl (.inl rfl) (pe_bm PySem.F.plainAttrs_str PySem.F.slot_str_index PySem.F.type_str_index mt_sindex (pe_glob (v := .str figs) rfl ef ⟨tf, rfl⟩) (pa_cons (pv 0) pa_nil)))
      (pss_cons (ps_if (PW.pt (pw_or (pt_cmpR op_lt (pv 3) (pv 1) (nomark _)) (pw_or1 (pt_cmpR op_gt (pv 3) (pv 2) (nomark _))))) (pss_one (ps_ret pe_non)) pss_nil)
      (pss_one (ps_ret (pv 3))))), ?_⟩
    refine ⟨_, rfl, z, rfl, hz, rfl, _, rfl, ?_⟩
    by_cases h1 : z.length = 1
    · refine iteNS (by rw [h1]; rfl) ?_
      obtain ⟨c, hc⟩ : ∃ c, z = ⟨#[c]⟩ := by
        have e := h1
        rw [len_tl] at e
        match q : tl z, e with
        | [c], _ => exact ⟨c, str_ext (by rw [q])⟩
      subst hc
      refine ⟨_, rfl, c, figs, rfl, rfl, _, rfl, ?_⟩
      rw [show figs.cps.toList = TL.tl figs from rfl, figs_tl]
      by_cases h2 : 48 ≤ c ∧ c ≤ 57
      · obtain ⟨d, rfl⟩ : ∃ d, c = 48 + d := ⟨c - 48, by omega⟩
        have hd : d < 10 := by omega
        have e3 : smallN ⟨#[48 + d]⟩ lo hi = if ((48 + d : Nat) : Int) - 48 < lo ∨ ((48 + d : Nat) : Int) - 48 > hi then none else some (((48 + d : Nat) : Int) - 48) := by
          show (if 48 ≤ 48 + d ∧ 48 + d ≤ 57 then _ else none) = _
          rw [if_pos ⟨by omega, by omega⟩]
        have e4 : ((48 + d : Nat) : Int) - 48 = (d : Int) := by omega
        rw [e4] at e3
        refine iteNS (by simp only [List.mem_cons]; omega) ?_
        refine ⟨rfl, _, rfl, figs, _, d, [], rfl, rfl, figs_index d hd, ?_⟩
        refine ⟨_, rfl, _, rfl, _, _, rfl, rfl, _, rfl, ite2 (fun a => ?_) (fun a => ?_)⟩
        · rw [e3, if_pos (.inl (of_decide_eq_true a))] at k
          exact iteT k
        · have a1 : ¬ (d : Int) < lo := fun z => a (decide_eq_true z)
          refine ⟨_, rfl, _, rfl, _, _, rfl, rfl, _, rfl, ite2 (fun b => ?_) (fun b => ?_)⟩
          · rw [e3, if_pos (.inr (of_decide_eq_true b))] at k
            exact k
          · rw [e3, if_neg (fun z => z.elim a1 fun y => b (decide_eq_true y))] at k
            exact ⟨_, rfl, k⟩
      · have e3 : smallN ⟨#[c]⟩ lo hi = none := if_neg h2
        rw [e3] at k
        have n : ¬ c ∈ [48, 49, 50, 51, 52, 53, 54, 55, 56, 57] := by
          simp only [List.mem_cons, List.not_mem_nil, or_false]
          omega
        rw [decide_eq_false n]
        exact iteT k
    · have e3 : smallN z lo hi = none := by
        unfold smallN
        split
        · rename_i c q
          exact absurd (by rw [len_tl, q]; rfl) h1
        · rfl
      rw [e3] at k
      have n : ¬ (V.int (z.length : Int) = V.int 1) := fun q => by
        injection q with q
        omega
      rw [decide_eq_false n]
      exact iteT k
end
end K3
/-! BadText, _read_sizes, _read_way -/
namespace K3
open PySem PySem.Spec PyProof.Rows L2
theorem t_blank : (Str.ofString " ") = S [32] := by decide +kernel
theorem t_line : (Str.ofString "\n") = S [10] := by decide +kernel
theorem t_book : (Str.ofString "book") = bookW := by decide +kernel
abbrev sBad : Stmt := inClass (top 4) 0
/-! ### the error, and what a def that raises it says -/
structure Bad (K : PySem.W.Frag) (mg : Str → Option Value) (C fI : Addr) : Prop where
  gC : mg "BadText" = some (.ref C)
  ox : OexC K C
  iC : PySem.W.findIn K (.ref C) "__init__" = some (some (.ref fI))
  tI : PySem.W.typeIn K (.ref fI) = some (.type "function")
  noP : PySem.W.findIn K (.ref C) "place" = some none
  te : PySem.W.exmOne K (.ref C) (.ref C) = some true
  xf : XfC K C
  fn : ∃ fd, FunD K "__init__" "BadText.__init__" (defArgs sBad) (defBody sBad) (defScope sBad) [] [] fI fd
/-- an error with the place k comes out, all that stood stands -/
def Raised (C : Addr) (k : Int) (H : Hp) (E : XK) : Prop := ∀ (d : Addr) (H' : Hp), Same H H' → H' d = some (.xd [(("place" : Str), V.int k)]) → E (.ref C) (some d) H'
theorem Raised.same {C : Addr} {k : Int} {H H' : Hp} {E : XK} (s : Same H H') (h : Raised C k H E) : Raised C k H' E := fun d H2 s2 e => h d H2 (s.trans s2) e
def spBadI (C : Addr) : Sp := fun vs H Q _ => ∃ (a : Addr) (y : V), vs = [.ref a, y] ∧ H a = some (exo a C none) ∧ ∀ dx, H dx = none → dx ≠ a → Q .non (upd (upd H dx (exd dx [(("place" : Str), y)])) a (exo a C (some dx)))
theorem sc_bad : FnScope ["self", "place"] ["self", "place"] (defScope sBad) := ⟨rfl, rfl, rfl, by decide +kernel, rfl, by decide +kernel, by decide +kernel⟩
theorem bad_reads {C : Addr} {H1 : Hp} {k : Int} {Q : XK} (h : Raised C k H1 Q) : ([V.int k] : List V).length ≤ 1000 ∧ ∀ a, H1 a = none → spBadI C (.ref a :: ([V.int k] ++ [])) (upd H1 a (exo a C none))
    (fun v H2 => v = .non ∧ ∃ (d : Addr) (fs : List (Str × V)), H2 a = some (exo a C (some d)) ∧ H2 d = some (exd d fs) ∧ H1 d = none ∧ Q (.ref C) (some d) (upd (del H2 a) d (.xd fs))) (fun _ _ _ => False) := by
  refine ⟨by show 1 ≤ 1000; decide, fun a ha => ⟨a, .int k, rfl, upd_same, fun dx n1 n2 => ?_⟩⟩
  have n3 : H1 dx = none := by
    rw [upd_ne n2] at n1
    exact n1
  refine ⟨rfl, dx, _, upd_same, by rw [upd_ne n2, upd_same], n3, h dx _ (fun b o e => ?_) upd_same⟩
  have b1 : b ≠ a := ne_of_none e ha
  have b2 : b ≠ dx := ne_of_none e n3
  rw [upd_ne b2, del_ne b1, upd_ne b1, upd_ne b2, upd_ne b1]
  exact e
section
variable {P : Program} {w : World} {K : PySem.W.Frag} {mg : Str → Option Value} {base : Heap}
theorem ok_badI {C fI : Addr} {fd : FuncData} (B : Bad K mg C fI) (F : FunD K "__init__" "BadText.__init__" (defArgs sBad) (defBody sBad) (defScope sBad) [] [] fI fd) : FnOk P w K mg base CX0 1 fI fd ["self", "place"] (spBadI C) := by
  refine F.ok sc_bad (fun vs H Q E h => ?_) (fun cdv A outer s H vs Q E hr h => ⟨_, PSs.nox (pss_one (ps_ost (pv 0) (pv 1))), ?_⟩)
  · obtain ⟨a, y, rfl, _⟩ := h
    rfl
  · obtain ⟨a, y, rfl, ha, k⟩ := h
    exact ⟨_, rfl, _, rfl, a, C, rfl, B.ox, B.noP, .inl ⟨ha, fun dx n1 n2 => k dx n1 n2⟩⟩
end
section
variable {X : Cx}
/-- raise BadText(e) -/
theorem ps_bad {C fI : Addr} {e : Expr} {te : TE} {W : WX} {k : Nat} {p pos pos2 : Pos} (B : Bad X.K X.mg C fI) (hr : Room (k + 2) X.A) (hc : X.calm = true) (tk : Takes X W) (he : PE X e te) (hg : Gl X "BadText" := by rfl) (hst : starEach [e] X.env = (false, eval e X.env) :: starEach [] X.env := by rfl) :
    PS X (.Raise (some (.Call (.Name "BadText" p) [e] [] pos)) none pos2) (fun _ σ H => tMkO C (spBadI C) [] (tCons te tNil) σ H fun cls d H' => W cls d σ H') := by
  obtain ⟨fd, F⟩ := B.fn
  exact ps_raise hc tk (pmk_oex B.ox B.iC B.tI (ok_badI B F) (hr.mono (by omega)) (F.bindsN fun _ _ _ _ _ _ us hl => match us, hl with | [_, _], _ => rfl) .nil pass0 hg B.gC (pa_cons he pa_nil hst) (by decide) hst)
end
/-! ### _read_sizes -/
def spSizes (C : Addr) : Sp := fun vs H Q E => ∃ z : Str, vs = [.str z] ∧ z.length ≤ 1000000 ∧ (sizesOf z = none → Raised C 0 H E) ∧ ∀ s c, sizesOf z = some (s, c) → ∀ p H', Same H H' → H' p = some (.tup [.int s, .int c]) → Q (.ref p) H'
theorem sc_sizes : FnScope ["line", "words", "states", "calls"] ["line"] (defScope (top 21)) := ⟨rfl, rfl, rfl, by decide +kernel, rfl, by decide +kernel, by decide +kernel⟩
theorem small_line {n : Nat} (h : n ≤ 1000000) : n + 2 ≤ sizeLine := by
  rw [sizeLine_eq]
  omega
theorem parts_small {z x : Str} {s : Nat} (hs : s < 256) (h : z.length ≤ 1000000) (hx : x ∈ parts z s) : x.length ≤ 1000000 := by
  have := wt_mem hx
  rw [wt_parts hs] at this
  omega
theorem optV_non (o : Option Int) : decide (optV o = V.non) = o.isNone := by
  cases o with
  | none => rfl
  | some n => exact decide_eq_false fun q => by cases q
section
variable {P : Program} {w : World} {K : PySem.W.Frag} {mg : Str → Option Value} {base : Heap}
theorem got_sizes {C fI : Addr} (T : Txt K mg) (B : Bad K mg C fI) (D : DefAt K mg "_read_sizes" (top 21)) (G : Got P w K mg base CX0 1 "small_number" ["word", "low", "high"] spSmall) : Got P w K mg base (L2.CX P w) 3 "_read_sizes" ["line"] (spSizes C) := by
  obtain ⟨f1, fd1, F1, m1, k1, b1⟩ := G
  refine got_of D sc_sizes (fun _ _ _ _ _ _ us hl => match us, hl with | [_], _ => rfl) (fun vs H Q E h => ?_) (fun f cdv A outer s H vs Q E hr h => ?_)
  · obtain ⟨z, rfl, _⟩ := h
    rfl
  · obtain ⟨z, rfl, hz, kE, kQ⟩ := h
    have hr1 : Room 1 _ := hr.mono (by decide)
    refine ⟨_, pss_cons (ps_set (i := 1) sc_sizes.nd rfl (.inl rfl) (pe_split (pv 0) pe_str))
      (pss_cons (ps_if (PW.pt (pw_or (pt_cmpR op_ne (pe_len T.len (pv 1)) pe_int (nomark _)) (pw_or1 (pt_cmpR op_ne (pe_ix ix_list (pv 1) pe_int (fun _ _ => rfl)) pe_str (nomark _))))) (pss_one (ps_bad B hr rfl (takes_of rfl rfl rfl rfl) pe_int)) pss_nil)
      (pss_cons (ps_set (i := 2) sc_sizes.nd rfl (.inl rfl) (pe_call F1 hr1 rfl m1 k1 b1 .nil pass0 (pa_cons (pe_ix ix_list (pv 1) pe_int (fun _ _ => rfl)) (pa_cons pe_int (pa_cons (pe_num T.mStates) pa_nil)))))
      (pss_cons (ps_set (i := 3) sc_sizes.nd rfl (.inl rfl) (pe_call F1 hr1 rfl m1 k1 b1 .nil pass0 (pa_cons (pe_ix ix_list (pv 1) pe_int (fun _ _ => rfl)) (pa_cons pe_int (pa_cons (pe_num T.mCalls) pa_nil)))))
      (pss_cons (ps_if (PW.pt (pw_or (pt_cmp (pc_isN (pv 2)) rfl) (pw_or1 (pt_cmp (pc_isN (pv 3)) rfl)))) (pss_one (ps_bad B hr rfl (takes_of rfl rfl rfl rfl) pe_int)) pss_nil)
      (pss_one (ps_ret (pe_tup (pa_cons (pv 2) (pa_cons (pv 3) pa_nil))))))))), ?_⟩
    -- words = line.split(" ")
    refine ⟨_, rfl, ⟨_, rfl⟩, z, _, rfl, rfl, (by decide +kernel), small_line hz, fun p hp => ?_⟩
    have s1 : Same H (upd H p (.lst ((Txt.split z (Str.ofString " ")).map V.str))) := Same.upd hp
    have hL : upd H p (.lst ((Txt.split z (Str.ofString " ")).map V.str)) p = some (.lst ((parts z 32).map V.str)) := by
      rw [upd_same, t_blank]
      rfl
    generalize upd H p (.lst ((Txt.split z (Str.ofString " ")).map V.str)) = H1 at s1 hL ⊢
    have kE1 := fun q => (kE q).same s1
    refine ⟨_, rfl, p, _, rfl, .inl (.of hL), rfl, _, rfl, ?_⟩
    rw [List.length_map]
    by_cases h3 : (parts z 32).length = 3
    · obtain ⟨w0, w1, w2, e⟩ : ∃ w0 w1 w2, parts z 32 = [w0, w1, w2] := by
        match q : parts z 32, h3 with
        | [w0, w1, w2], _ => exact ⟨w0, w1, w2, rfl⟩
      have l1 := parts_small (x := w1) (by decide : 32 < 256) hz (by rw [e]; simp)
      have l2 := parts_small (x := w2) (by decide : 32 < 256) hz (by rw [e]; simp)
      refine iteNS (by rw [h3]; rfl) ?_
      rw [e] at hL
      refine ⟨_, rfl, p, _, 0, .str w0, rfl, rfl, .of hL, rfl, rfl, _, rfl, ?_⟩
      rw [t_book]
      by_cases hb : w0 = bookW
      · refine iteNS (by rw [hb]) ?_
        refine ⟨_, rfl, p, _, 1, .str w1, rfl, rfl, .of hL, rfl, w1, 1, 6, rfl, Nat.le_trans l1 (by decide), ?_⟩
        refine ⟨_, rfl, p, _, 2, .str w2, rfl, rfl, .of hL, rfl, w2, 1, 4, rfl, Nat.le_trans l2 (by decide), ?_⟩
        have es : sizesOf z = (match smallN w1 1 6, smallN w2 1 4 with
          | some s, some c => some (s, c)
          | _, _ => none) := by
          unfold sizesOf
          rw [e]
          exact if_pos hb
        refine ⟨_, rfl, _, rfl, ?_⟩
        rw [optV_non]
        cases e1 : smallN w1 1 6 with
        | none =>
          rw [e1] at es
          exact iteT (bad_reads (kE1 es))
        | some a =>
          refine iteF ⟨_, rfl, _, rfl, ?_⟩
          rw [optV_non]
          cases e2 : smallN w2 1 4 with
          | none =>
            rw [e1, e2] at es
            exact iteT (bad_reads (kE1 es))
          | some b =>
            rw [e1, e2] at es
            exact iteF ⟨_, rfl, _, rfl, (by show 2 ≤ sizeLine; decide), fun q hq => kQ a b es q _ (s1.new hq) upd_same⟩
      · have es : sizesOf z = none := by
          unfold sizesOf
          rw [e]
          exact if_neg hb
        rw [decide_eq_false (fun q => hb (by injection q))]
        exact iteT (bad_reads (kE1 es))
    · have es : sizesOf z = none := by
        unfold sizesOf
        split
        · rename_i q
          exact absurd (by rw [q]; rfl) h3
        · rfl
      rw [decide_eq_false (fun q => h3 (by injection q with q; omega))]
      exact iteT (bad_reads (kE1 es))
end
end K3
/-! _read_way -/
namespace K3
open PySem PySem.Spec PyProof.Rows L2
theorem ifT {b : Bool} {A B : Prop} (h : b = true) (a : A) : if b = true then A else B := by
  rw [if_pos h]
  exact a
theorem ifF {b : Bool} {A B : Prop} (h : b = false) (a : B) : if b = true then A else B := by
  rw [h]
  exact iteF a
/-- what was made behind H0 changes, all that stood stands -/
theorem _root_.L2.Same.set {H0 H : Hp} {D : Addr} {o : HO} (s : Same H0 H) (h : H0 D = none) : Same H0 (L2.upd H D o) := fun b u e => by
  rw [upd_ne (ne_of_none e h)]
  exact s b u e
section
variable {X : Cx} {i j l : Nat} {a b c : Str} {pa pb pc pos : Pos} {kk : Nat}
/-- two, three names of a comprehension's own take a tuple's, a list's items -/
theorem pg_two (hc : X.calm = true) (nd : X.N.Nodup) (hi : X.N[i]? = some a) (hj : X.N[j]? = some b) (la : X.env.scope.names.lookup a = some .local) (lb : X.env.scope.names.lookup b = some .local) :
    PG X (.Tuple [.Name a pa, .Name b pb] kk pos) (gTup X.K 2 (gCons (gName i) (gCons (gName j) gNil))) :=
  pg_tup hc (pgs_cons (pg_name nd hi (.inl la) (.inr la)) (pgs_cons (pg_name nd hj (.inl lb) (.inr lb)) pgs_nil))
theorem pg_three (hc : X.calm = true) (nd : X.N.Nodup) (hi : X.N[i]? = some a) (hj : X.N[j]? = some b) (hl : X.N[l]? = some c) (la : X.env.scope.names.lookup a = some .local) (lb : X.env.scope.names.lookup b = some .local) (lc : X.env.scope.names.lookup c = some .local) :
    PG X (.Tuple [.Name a pa, .Name b pb, .Name c pc] kk pos) (gTup X.K 3 (gCons (gName i) (gCons (gName j) (gCons (gName l) gNil)))) :=
  pg_tup hc (pgs_cons (pg_name nd hi (.inl la) (.inr la)) (pgs_cons (pg_name nd hj (.inl lb) (.inr lb)) (pgs_cons (pg_name nd hl (.inl lc) (.inr lc)) pgs_nil)))
theorem pg_threeL (hc : X.calm = true) (nd : X.N.Nodup) (hi : X.N[i]? = some a) (hj : X.N[j]? = some b) (hl : X.N[l]? = some c) (la : X.env.scope.names.lookup a = some .local) (lb : X.env.scope.names.lookup b = some .local) (lc : X.env.scope.names.lookup c = some .local) :
    PG X (.Tuple [.Name a pa, .Name b pb, .Name c pc] kk pos) (gUnl X.K 3 (gCons (gName i) (gCons (gName j) (gCons (gName l) gNil)))) :=
  pg_unl hc (pgs_cons (pg_name nd hi (.inl la) (.inr la)) (pgs_cons (pg_name nd hj (.inl lb) (.inr lb)) (pgs_cons (pg_name nd hl (.inl lc) (.inr lc)) pgs_nil)))
end
def spWay : Sp := fun vs H Q _ => ∃ (z : Str) (s c : Int), vs = [.str z, .int s, .int c] ∧ z.length ≤ 1000000 ∧ (wayOf z s c = none → ∀ H', Same H H' → Q .non H') ∧ ∀ x, wayOf z s c = some x → ∀ p H', Same H H' → Tup H' p x.row → Q (.ref p) H'
theorem sc_way : FnScope ["line", "states", "calls", "words", "highest", "numbers", "word", "high"] ["line", "states", "calls"] (defScope (top 22)) := ⟨rfl, rfl, rfl, by decide +kernel, rfl, by decide +kernel, by decide +kernel⟩
section
variable {P : Program} {w : World} {K : PySem.W.Frag} {mg : Str → Option Value} {base : Heap}
theorem got_way (T : Txt K mg) (D : DefAt K mg "_read_way" (top 22)) (G : Got P w K mg base CX0 1 "small_number" ["word", "low", "high"] spSmall) : Got P w K mg base CX0 2 "_read_way" ["line", "states", "calls"] spWay := by
  obtain ⟨f1, fd1, F1, m1, k1, b1⟩ := G
  refine got0 D sc_way (fun _ _ _ _ _ _ us hl => match us, hl with | [_, _, _], _ => rfl) (fun vs H Q E h => ?_) (fun f cdv A outer s H vs Q E hr h => ?_)
  · obtain ⟨z, s, c, rfl, _⟩ := h
    rfl
  · obtain ⟨z, s, c, rfl, hz, kN, kW⟩ := h
    refine ⟨_, pss_cons (ps_set (i := 3) sc_way.nd rfl (.inl rfl) (pe_split (pv 0) pe_str))
      (pss_cons (ps_if (pt_cmpR op_ne (pe_len T.len (pv 3)) pe_int (nomark _)) (pss_one (ps_ret pe_non)) pss_nil)
      (pss_cons (ps_set (i := 4) sc_way.nd rfl (.inl rfl) (pe_tup (pa_cons (pe_op op_sub (pv 1) pe_int) (pa_cons (pe_op op_sub (pv 2) pe_int) (pa_cons pe_int (pa_cons (pe_op op_sub (pv 1) pe_int) pa_nil))))))
      (pss_cons (ps_setLc (i := 5) (own := [("word", 6), ("high", 7)]) (g := gTup K 2 (gCons (gName 6) (gCons (gName 7) gNil))) (tt := tYes) rfl sc_way.nd rfl rfl (sw_true rfl rfl rfl (by decide +kernel)) (pi_zipM rfl T.zip (pa_cons (pv 3) (pa_cons (pv 4) pa_nil)))
          (blkOk_by (own := [("word", 6), ("high", 7)]) (N := ["line", "states", "calls", "words", "highest", "numbers", "word", "high"]) (sc := defScope (top 22)) (by decide +kernel))
          (fun _ _ _ _ _ => pg_two (i := 6) (j := 7) rfl sc_way.nd rfl rfl rfl rfl) (fun _ _ _ _ _ => pts_nil)
          (fun _ _ _ _ _ => by exact (pe_call F1 hr rfl m1 k1 b1 .nil pass0 (pa_cons (pv 6) (pa_cons pe_int (pa_cons (pv 7) pa_nil))))))
      (pss_cons (ps_if (pt_cmpR op_in_seq pe_non (pv 5) rfl) (pss_one (ps_ret pe_non)) pss_nil)
      (pss_one (ps_ret (pe_callTy call_tuple_of rfl T.tuple bt_tuple (pa_cons (pv 5) pa_nil)))))))), ?_⟩
    refine ⟨_, rfl, ⟨_, rfl⟩, z, _, rfl, rfl, (by decide +kernel), small_line hz, fun p hp => ?_⟩
    have s1 : Same H (upd H p (.lst ((Txt.split z (Str.ofString " ")).map V.str))) := Same.upd hp
    have hL : upd H p (.lst ((Txt.split z (Str.ofString " ")).map V.str)) p = some (.lst ((parts z 32).map V.str)) := by
      rw [upd_same, t_blank]
      rfl
    generalize upd H p (.lst ((Txt.split z (Str.ofString " ")).map V.str)) = H1 at s1 hL ⊢
    refine ⟨_, rfl, p, _, rfl, .inl (.of hL), rfl, _, rfl, ?_⟩
    rw [List.length_map]
    by_cases h4 : (parts z 32).length = 4
    · obtain ⟨w0, w1, w2, w3, e⟩ : ∃ w0 w1 w2 w3, parts z 32 = [w0, w1, w2, w3] := by
        match q : parts z 32, h4 with
        | [w0, w1, w2, w3], _ => exact ⟨w0, w1, w2, w3, rfl⟩
      have l0 : w0.length ≤ sizeLine := Nat.le_trans (parts_small (by decide : 32 < 256) hz (by rw [e]; simp)) (by decide)
      have l1 : w1.length ≤ sizeLine := Nat.le_trans (parts_small (by decide : 32 < 256) hz (by rw [e]; simp)) (by decide)
      have l2 : w2.length ≤ sizeLine := Nat.le_trans (parts_small (by decide : 32 < 256) hz (by rw [e]; simp)) (by decide)
      have l3 : w3.length ≤ sizeLine := Nat.le_trans (parts_small (by decide : 32 < 256) hz (by rw [e]; simp)) (by decide)
      refine iteNS (by rw [h4]; rfl) ?_
      rw [e] at hL
      refine ⟨_, rfl, _, _, rfl, rfl, _, rfl, _, _, rfl, rfl, _, rfl, _, _, rfl, rfl, (by show 4 ≤ sizeLine; decide), fun q hq => ?_⟩
      have s2 := s1.new (o := .tup [.int (s - 1), .int (c - 1), .int 2, .int (s - 1)]) hq
      have hL2 : upd H1 q (.tup [.int (s - 1), .int (c - 1), .int 2, .int (s - 1)]) p = some (.lst [.str w0, .str w1, .str w2, .str w3]) := Same.upd hq _ _ hL
      have hT2 : upd H1 q (.tup [.int (s - 1), .int (c - 1), .int 2, .int (s - 1)]) q = some (.tup [.int (s - 1), .int (c - 1), .int 2, .int (s - 1)]) := upd_same
      change tSeq _ _ _ _ (upd H1 q (.tup [.int (s - 1), .int (c - 1), .int 2, .int (s - 1)]))
      generalize upd H1 q (.tup [.int (s - 1), .int (c - 1), .int 2, .int (s - 1)]) = H2 at s2 hL2 hT2 ⊢
      have ew : wayOf z s c = (match smallN w0 0 (s - 1), smallN w1 0 (c - 1), smallN w2 0 2, smallN w3 0 (s - 1) with
        | some a, some b, some d, some f => some ⟨a, b, d, f⟩
        | _, _, _, _ => none) := by
        unfold wayOf
        rw [e] <;> rfl
      generalize e0 : smallN w0 0 (s - 1) = o0 at ew
      generalize e1 : smallN w1 0 (c - 1) = o1 at ew
      generalize e2 : smallN w2 0 2 = o2 at ew
      generalize e3 : smallN w3 0 (s - 1) = o3 at ew
      -- numbers = [small_number(word, 0, high) for word, high in zip(words, highest)]
      refine ⟨_, rfl, _, rfl, p, q, _, _, rfl, .of hL2, .of hT2, fun D hD => ?_⟩
      have st : ∀ {H5 : Hp} {i : Nat} {y : V}, Same H2 H5 → H5 D = some (.lst (([optV o0, optV o1, optV o2, optV o3] : List V).take i)) → i < 4 → ([optV o0, optV o1, optV o2, optV o3] : List V)[i]? = some y →
          ∃ acc, H5 D = some (.lst acc) ∧ acc.length < sizeLine ∧ (Same H2 (upd H5 D (.lst (acc ++ [y]))) ∧ upd H5 D (.lst (acc ++ [y])) D = some (.lst (([optV o0, optV o1, optV o2, optV o3] : List V).take (i + 1)))) := fun {H5 i y} sm hd hi hy => by
        refine ⟨_, hd, ?_, sm.set hD, ?_⟩
        · rw [List.length_take]
          exact Nat.lt_of_le_of_lt (Nat.min_le_left _ _) (Nat.lt_trans hi (by decide))
        · rw [upd_same, List.take_add_one, hy]
          rfl
      refine lc_zipM (fun i H5 => Same H2 H5 ∧ H5 D = some (.lst (([optV o0, optV o1, optV o2, optV o3] : List V).take i))) ⟨Same.upd hD, upd_same⟩ (fun i H5 h5 => ⟨h5.1.seq (.of hL2), h5.1.seqT (.of hT2)⟩) (fun i x y t H5 hx hy h5 ht => ?_) (fun H5 h5 => ?_)
      · have s5 : Same H2 (upd H5 t (.tup [x, y])) := h5.1.new ht
        have d5 : (upd H5 t (.tup [x, y])) D = _ := Same.upd ht _ _ h5.2
        refine ⟨t, _, rfl, .of upd_same, rfl, _, _, rfl, _, _, rfl, rfl, rfl, ?_⟩
        dsimp only [tYes]
        refine iteT ?_
        match i, hx, hy, h5, d5 with
        | 0, hx, hy, h5, d5 =>
          cases hx
          cases hy
          exact ⟨_, rfl, _, rfl, w0, 0, s - 1, rfl, l0, by rw [e0]; exact st s5 d5 (by decide) rfl⟩
        | 1, hx, hy, h5, d5 =>
          cases hx
          cases hy
          exact ⟨_, rfl, _, rfl, w1, 0, c - 1, rfl, l1, by rw [e1]; exact st s5 d5 (by decide) rfl⟩
        | 2, hx, hy, h5, d5 =>
          cases hx
          cases hy
          exact ⟨_, rfl, _, rfl, w2, 0, 2, rfl, l2, by rw [e2]; exact st s5 d5 (by decide) rfl⟩
        | 3, hx, hy, h5, d5 =>
          cases hx
          cases hy
          exact ⟨_, rfl, _, rfl, w3, 0, s - 1, rfl, l3, by rw [e3]; exact st s5 d5 (by decide) rfl⟩
        | n + 4, hx, hy, h5, d5 => exact absurd hx (by simp)
      · obtain ⟨s5, d5⟩ := h5
        have s6 : Same H H5 := s2.trans s5
        refine ⟨_, rfl, D, [optV o0, optV o1, optV o2, optV o3], rfl, .inl (.of d5), rfl, ?_, _, rfl, ?_⟩
        · cases o0 <;> cases o1 <;> cases o2 <;> cases o3 <;> rfl
        · match o0, o1, o2, o3, ew, d5 with
          | none, _, _, _, ew, _ => exact ifT rfl (kN ew _ s6)
          | some _, none, _, _, ew, _ => exact ifT rfl (kN ew _ s6)
          | some _, some _, none, _, ew, _ => exact ifT rfl (kN ew _ s6)
          | some _, some _, some _, none, ew, _ => exact ifT rfl (kN ew _ s6)
          | some a, some b, some d, some f, ew, d5 =>
            exact ifF rfl ⟨_, rfl, D, _, rfl, .inl ⟨.of d5, fun l hl => kW ⟨a, b, d, f⟩ ew l _ (s6.new hl) upd_same⟩⟩
    · have ew : wayOf z s c = none := by
        unfold wayOf
        split
        · rename_i q
          exact absurd (by rw [q]; rfl) h4
        · rfl
      rw [decide_eq_false (fun q => h4 (by injection q with q; omega))]
      exact iteT (kN ew _ s1)
end
end K3
/-! data compared; _check_ways -/
namespace K3
open PySem PySem.Spec PyProof.Rows L2
/-! ### data of ints -/
theorem can_ints : ∀ r : List Int, PyData.canLayAll0 (r.map PyData.int) = true
  | [] => rfl
  | i :: r => by
    rw [List.map_cons, PyData.canLayAll0, can_ints r]
    rfl
theorem shaped_row (r : List Int) : SeqAt.shaped (dRow r) = true := by
  unfold SeqAt.shaped dRow
  rw [PyData.canLay0, can_ints, PyData.depth, PySem.W.depth_ints]
  rfl
theorem eqvAll_ints : ∀ r q : List Int, PyData.eqvAll (r.map PyData.int) (q.map PyData.int) = decide (r = q)
  | [], [] => rfl
  | [], _ :: _ => rfl
  | _ :: _, [] => rfl
  | i :: r, j :: q => by
    rw [List.map_cons, List.map_cons, PyData.eqvAll, eqvAll_ints r q, PyData.eqv]
    by_cases h1 : i = j <;> by_cases h2 : r = q <;> simp [h1, h2]
theorem eqv_row (r q : List Int) : PyData.eqv (dRow r) (dRow q) = decide (r = q) := by
  unfold dRow
  rw [PyData.eqv, eqvAll_ints]
theorem can_rows : ∀ rs : List (List Int), PyData.canLayAll0 (rs.map dRow) = true
  | [] => rfl
  | r :: rs => by
    rw [List.map_cons, PyData.canLayAll0, can_rows rs, dRow, PyData.canLay0, can_ints]
    rfl
theorem depth_rows : ∀ rs : List (List Int), PyData.depthAll (rs.map dRow) ≤ 1
  | [] => by
    rw [List.map_nil, PyData.depthAll]
    exact Nat.zero_le _
  | r :: rs => by
    rw [List.map_cons, PyData.depthAll, dRow, PyData.depth, PySem.W.depth_ints]
    have := depth_rows rs
    omega
theorem shaped_rowsL (rs : List (List Int)) : SeqAt.shaped (.list (rs.map dRow)) = true := by
  unfold SeqAt.shaped
  rw [PyData.canLay0, can_rows, PyData.depth]
  have := depth_rows rs
  rw [decide_eq_true (by omega)]
  rfl
theorem shaped_rowsT (rs : List (List Int)) : SeqAt.shaped (.tuple (rs.map dRow)) = true := by
  unfold SeqAt.shaped
  rw [PyData.canLay0, can_rows, PyData.depth]
  have := depth_rows rs
  rw [decide_eq_true (by omega)]
  rfl
theorem eqv_nil (rs : List (List Int)) : PyData.eqv (.list (rs.map dRow)) (.list []) = rs.isEmpty := by
  cases rs <;> rfl
theorem eqvAll_rows : ∀ rs : List (List Int), PyData.eqvAll (rs.map dRow) (rs.map dRow) = true
  | [] => rfl
  | r :: rs => by
    rw [List.map_cons, PyData.eqvAll, eqv_row, decide_eq_true rfl, eqvAll_rows rs]
    rfl
theorem eqv_rows (rs : List (List Int)) : PyData.eqv (.tuple (rs.map dRow)) (.tuple (rs.map dRow)) = true := by
  rw [PyData.eqv, eqvAll_rows]
/-! ### couples as a dict's keys -/
def pk (x : Way) : List Key := [Sum.inl x.st, Sum.inl x.ca]
structure PairsOf (kvs : List (List Key × V)) (xs : List Way) : Prop where
  nd : (kvs.map (·.1)).Nodup
  mem : ∀ k, k ∈ kvs.map (·.1) ↔ ∃ x ∈ xs, k = pk x
theorem PairsOf.nil : PairsOf [] [] := ⟨List.nodup_nil, fun k => by simp⟩
theorem any_key {kvs : List (List Key × V)} {k : List Key} : (kvs.any fun kv => decide (kv.1 = k)) = true ↔ k ∈ kvs.map (·.1) := by
  rw [List.any_eq_true, List.mem_map]
  constructor
  · rintro ⟨p, hp, h⟩
    exact ⟨p, hp, of_decide_eq_true h⟩
  · rintro ⟨p, hp, h⟩
    exact ⟨p, hp, decide_eq_true h⟩
theorem keys_put_in {kvs : List (List Key × V)} {k : List Key} {v : V} (h : k ∈ kvs.map (·.1)) : (putK kvs k v).map (·.1) = kvs.map (·.1) := by
  unfold putK
  rw [if_pos (any_key.mpr h), List.map_map]
  refine List.map_congr_left fun p _ => ?_
  show (if p.1 = k then (p.1, v) else p).1 = p.1
  by_cases q : p.1 = k
  · rw [if_pos q]
  · rw [if_neg q]
theorem keys_put_out {kvs : List (List Key × V)} {k : List Key} {v : V} (h : ¬ k ∈ kvs.map (·.1)) : (putK kvs k v).map (·.1) = kvs.map (·.1) ++ [k] := by
  unfold putK
  rw [if_neg (fun z => h (any_key.mp z)), List.map_append]
  rfl
theorem PairsOf.put {kvs : List (List Key × V)} {xs : List Way} (h : PairsOf kvs xs) (x : Way) (v : V) : PairsOf (putK kvs (pk x) v) (xs ++ [x]) := by
  by_cases q : pk x ∈ kvs.map (·.1)
  · refine ⟨by rw [keys_put_in q]; exact h.nd, fun k => ?_⟩
    rw [keys_put_in q, h.mem]
    constructor
    · rintro ⟨y, hy, e⟩
      exact ⟨y, List.mem_append_left _ hy, e⟩
    · rintro ⟨y, hy, e⟩
      rcases List.mem_append.mp hy with hy | hy
      · exact ⟨y, hy, e⟩
      · rw [List.mem_singleton] at hy
        subst hy
        rw [e]
        exact (h.mem _).mp q
  · refine ⟨?_, fun k => ?_⟩
    · rw [keys_put_out q, List.nodup_append]
      refine ⟨h.nd, by simp, fun a ha b hb => ?_⟩
      rw [List.mem_singleton] at hb
      subst hb
      exact fun e => q (e ▸ ha)
    · rw [keys_put_out q, List.mem_append, h.mem, List.mem_singleton]
      constructor
      · rintro (⟨y, hy, e⟩ | e)
        · exact ⟨y, List.mem_append_left _ hy, e⟩
        · exact ⟨x, List.mem_append_right _ (List.mem_singleton.mpr rfl), e⟩
      · rintro ⟨y, hy, e⟩
        rcases List.mem_append.mp hy with hy | hy
        · exact .inl ⟨y, hy, e⟩
        · rw [List.mem_singleton] at hy
          subst hy
          exact .inr e
def unpk : List Key → Int × Int
  | [Sum.inl a, Sum.inl b] => (a, b)
  | _ => (0, 0)
theorem PairsOf.count {kvs : List (List Key × V)} {s c : Int} {xs : List Way} (h : PairsOf kvs xs) (hs : 0 ≤ s ∧ s ≤ 6) (hc : 0 ≤ c ∧ c ≤ 4) (ho : ∀ x ∈ xs, x.ok s c) : decide ((kvs.length : Int) < s * c) = !covers s c xs := by
  have e := count_covers (ps := (kvs.map (·.1)).map unpk) hs hc ho (List.pairwise_map.mpr (List.Pairwise.imp_of_mem (fun {a b} ha hb hab => ?_) (show List.Pairwise (· ≠ ·) (kvs.map (·.1)) from h.nd))) (fun p => ?_)
  · rw [List.length_map, List.length_map] at e
    exact e
  · obtain ⟨x, _, rfl⟩ := (h.mem a).mp ha
    obtain ⟨y, _, rfl⟩ := (h.mem b).mp hb
    intro q
    have q2 : (x.st, x.ca) = (y.st, y.ca) := q
    injection q2 with q3 q4
    exact hab (by unfold pk; rw [q3, q4])
  · rw [List.mem_map]
    constructor
    · rintro ⟨k, hk, rfl⟩
      obtain ⟨x, hx, rfl⟩ := (h.mem k).mp hk
      exact ⟨x, hx, rfl⟩
    · rintro ⟨x, hx, rfl⟩
      exact ⟨pk x, (h.mem _).mpr ⟨x, hx, rfl⟩, rfl⟩
/-! ### ways and where they stand -/
theorem rows_of {H : Hp} : ∀ {aw : List AW}, (∀ p ∈ aw, Tup H p.1 p.2.row) → Rows H (aw.map (·.1)) ((aw.map (·.2)).map Way.row)
  | [], _ => .nil
  | p :: aw, h => .cons (h p (List.mem_cons_self ..)) (rows_of fun q hq => h q (List.mem_cons_of_mem _ hq))
theorem of_rows {H : Hp} : ∀ {ps : List Addr} {ws : List Way}, Rows H ps (ws.map Way.row) → ∃ aw : List AW, aw.map (·.1) = ps ∧ aw.map (·.2) = ws ∧ ∀ p ∈ aw, Tup H p.1 p.2.row
  | [], [], _ => ⟨[], rfl, rfl, fun p hp => by cases hp⟩
  | [], _ :: _, h => by cases h
  | _ :: _, [], h => by cases h
  | p :: ps, x :: ws, h => by
    cases h with
    | cons a b =>
      obtain ⟨aw, e1, e2, e3⟩ := of_rows b
      refine ⟨(p, x) :: aw, by rw [List.map_cons, e1], by rw [List.map_cons, e2], fun q hq => ?_⟩
      rcases List.mem_cons.mp hq with rfl | hq
      · exact a
      · exact e3 q hq
def rTupT (K : PySem.W.Frag) : List V → Hp → VK → Prop := fun xs H Q => ∃ a ys, xs = [V.ref a] ∧ SqT K H a ys ∧ Q (.ref a) H
theorem call_tupT {X : Cx} : CallR X (.type "tuple") (rTupT X.K) := call_tupleT
end K3
/-! _check_ways -/
namespace K3
open PySem PySem.Spec PyProof.Rows L2
theorem small62 {n : Nat} (h : n ≤ 1000000000) : -(2 ^ 62) ≤ (n : Int) ∧ (n : Int) < 2 ^ 62 := by
  constructor <;> omega
/-- each of aw holds its way -/
def Stand (H : Hp) (aw : List AW) : Prop := ∀ p ∈ aw, Tup H p.1 p.2.row
theorem Stand.same {H H' : Hp} {aw : List AW} (s : Same H H') (h : Stand H aw) : Stand H' aw := fun p hp => (h p hp).same s
theorem Stand.at {H : Hp} {aw : List AW} (h : Stand H aw) {i : Nat} {p : AW} (e : aw[i]? = some p) : Tup H p.1 p.2.row := h p (List.mem_of_getElem? e)
abbrev adr (aw : List AW) : List V := refs (aw.map (·.1))
abbrev wys (aw : List AW) : List Way := aw.map (·.2)
theorem adr_at {aw : List AW} {i : Nat} {x : V} (h : (adr aw)[i]? = some x) : ∃ p, aw[i]? = some p ∧ x = V.ref p.1 := by
  obtain ⟨a, e, rfl⟩ := of_refs h
  rw [List.getElem?_map] at e
  cases q : aw[i]? with
  | none => rw [q] at e; cases e
  | some p =>
    rw [q] at e
    exact ⟨p, rfl, congrArg V.ref (Option.some.inj e).symm⟩
theorem adr_get {aw : List AW} {i : Nat} {p : AW} (h : aw[i]? = some p) : (adr aw)[i]? = some (V.ref p.1) := refs_get (by rw [List.getElem?_map, h]; rfl)
theorem adr_len (aw : List AW) : (adr aw).length = aw.length := by rw [adr, refs, List.length_map, List.length_map]
theorem wys_len (aw : List AW) : (wys aw).length = aw.length := List.length_map ..
theorem take_more {α : Type} {l : List α} {i : Nat} {x : α} (h : l[i]? = some x) : l.take (i + 1) = l.take i ++ [x] := by
  rw [List.take_add_one, h]
  rfl
theorem lt_of_get {α : Type} {l : List α} {i : Nat} {x : α} (h : l[i]? = some x) : i < l.length := (List.getElem?_eq_some_iff.mp h).1
theorem asc_ne {ws : List Way} (h : Asc ws) {i j : Nat} {x y : Way} (hij : i < j) (hx : ws[i]? = some x) (hy : ws[j]? = some y) : x.key < y.key := by
  have h1 := List.pairwise_map.mp h
  obtain ⟨l1, e1⟩ := List.getElem?_eq_some_iff.mp hx
  obtain ⟨l2, e2⟩ := List.getElem?_eq_some_iff.mp hy
  have := List.pairwise_iff_getElem.mp h1 i j l1 l2 hij
  rw [e1, e2] at this
  exact this
def spCheck : Sp := fun vs H Q _ => ∃ (s c : Int) (a : Addr) (aw : List AW), vs = [.int s, .int c, .ref a] ∧ BookOk s c (wys aw) ∧ H a = some (.lst (adr aw)) ∧ Stand H aw ∧
  ∀ (H' : Hp) (q : Addr) (aw' : List AW), Same H H' → H' q = some (.tup (adr aw')) → wys aw' = wys aw → Stand H' aw' → Q (.ref q) H'
theorem sc_check : FnScope ["states", "calls", "ways", "way", "kept", "place", "begins"] ["states", "calls", "ways"] (defScope (top 13)) := ⟨rfl, rfl, rfl, by decide +kernel, rfl, by decide +kernel, by decide +kernel⟩
section
variable {P : Program} {w : World} {K : PySem.W.Frag} {mg : Str → Option Value} {base : Heap}
theorem got_check (T : Txt K mg) (D : DefAt K mg "_check_ways" (top 13)) (G2 : Got P w K mg base CX0 1 "is_sequence" ["thing"] spSeq) (G3 : Got P w K mg base CX0 2 "_is_way" ["thing", "states", "calls"] spIsWay) :
    Got P w K mg base CX0 3 "_check_ways" ["states", "calls", "ways"] spCheck := by
  obtain ⟨f2, fd2, F2, m2, k2, b2⟩ := G2
  obtain ⟨f3, fd3, F3, m3, k3, b3⟩ := G3
  refine got0 D sc_check (fun _ _ _ _ _ _ us hl => match us, hl with | [_, _, _], _ => rfl) (fun vs H Q E h => ?_) (fun f cdv A outer s0 H vs Q E hr h => ?_)
  · obtain ⟨s, c, a, aw, rfl, _⟩ := h
    rfl
  · obtain ⟨s, c, a, aw, rfl, B, ha, hw, k⟩ := h
    have hr1 : Room 1 _ := hr.mono (by decide)
    have hl : aw.length ≤ 432 := by
      have := B.len
      rw [wys_len] at this
      exact this
    have s1 := B.s1
    have s6 := B.s6
    have c1 := B.c1
    have c4 := B.c4
    refine ⟨_, pss_cons (ps_if (PW.pt (pw_or (pt_not (pt_val (pe_call F2 hr1 rfl m2 k2 b2 .nil pass0 (pa_cons (pv 2) pa_nil)))) (pw_or1 (pt_cmpR op_gt (pe_len T.len (pv 2)) (pe_num T.mWays) (nomark _))))) (pss_one ps_never) pss_nil)
      (pss_cons (ps_for PassesOwn.never rfl (pi_list (pv 2)) (pg_name (i := 3) sc_check.nd rfl (.inl rfl)) (pss_one (ps_if (pt_not (pt_val (pe_call F3 hr rfl m3 k3 b3 .nil pass0 (pa_cons (pv 3) (pa_cons (pv 0) (pa_cons (pv 1) pa_nil)))))) (pss_one ps_never) pss_nil)))
      (pss_cons (ps_set (i := 4) sc_check.nd rfl (.inl rfl) (pe_callB (cr_sortedW hr.units) rfl T.sorted bb_sorted (pa_cons
          (pe_lc (own := [("way", 3)]) (g := gName 3) (tt := tYes) (te := tCB (rTupT K) (tCons (tVar 3) tNil)) rfl sc_check.nd (pi_list (pv 2)) (blkOk_by (own := [("way", 3)]) (N := ["states", "calls", "ways", "way", "kept", "place", "begins"]) (sc := defScope (top 13)) (by decide +kernel))
            (fun _ _ _ _ _ => pg_name (i := 3) sc_check.nd rfl (.inl rfl)) (fun _ _ _ _ _ => pts_nil) (fun _ _ _ _ _ => pe_callTy call_tupT rfl T.tuple bt_tuple (pa_cons (pv 3) pa_nil))) pa_nil)))
      (pss_cons (ps_for PassesOwn.never rfl (pi_range2 rfl T.range (pa_cons pe_int (pa_cons (pe_len T.len (pv 4)) pa_nil))) (pg_name (i := 5) sc_check.nd rfl (.inl rfl))
          (pss_one (ps_if (pt_cmpR (op_eqD hr.units) (pe_ix ix_list (pv 4) (pe_op op_sub (pv 5) pe_int) (fun _ _ => rfl)) (pe_ix ix_list (pv 4) (pv 5) (fun _ _ => rfl)) (nomark _)) (pss_one ps_never) pss_nil)))
      (pss_cons (ps_setDcT (i := 6) (own := [("way", 3)]) (g := gName 3) (tk := tTup (tCons (tOp (rIxT K) (tVar 3) (tC (.int 0))) (tCons (tOp (rIxT K) (tVar 3) (tC (.int 1))) tNil))) (tv := tC (.bl true)) (hu_of hr) rfl sc_check.nd rfl rfl (sw_dict rfl rfl rfl (by decide +kernel)) (pi_list (pv 4))
          (blkOk_by (own := [("way", 3)]) (N := ["states", "calls", "ways", "way", "kept", "place", "begins"]) (sc := defScope (top 13)) (by decide +kernel)) (fun _ _ _ _ _ => pg_name (i := 3) sc_check.nd rfl (.inl rfl))
          (fun _ _ _ _ _ => pe_tup (pa_cons (pe_ix ix_tup (pv 3) pe_int (fun _ _ => rfl)) (pa_cons (pe_ix ix_tup (pv 3) pe_int (fun _ _ => rfl)) pa_nil))) (fun _ _ _ _ _ => pe_bl))
      (pss_cons (ps_if (pt_cmpR op_lt (pe_callB call_len_dT rfl T.len PySem.boot_len (pa_cons (pv 6) pa_nil)) (pe_op op_mul (pv 0) (pv 1)) (nomark _)) (pss_one ps_never) pss_nil)
      (pss_one (ps_ret (pe_callTy call_tuple_of rfl T.tuple bt_tuple (pa_cons (pv 4) pa_nil))))))))), ?_⟩
    -- a sequence of few items
    refine ⟨_, rfl, a, rfl, .inl ⟨_, ha⟩, fun H1 e1 => ⟨true, rfl, iteF ?_⟩⟩
    refine ⟨_, rfl, a, _, rfl, .inl (.of (e1 _ _ ha)), _, _, rfl, rfl, _, rfl, ?_⟩
    rw [decide_eq_false (by rw [adr_len]; omega)]
    refine iteF ?_
    -- each a way
    refine ⟨_, rfl, a, rfl, ⟨_, .of (e1 _ _ ha)⟩, for_list (K := K) (a := a) (xs := adr aw) (fun i σ H2 => ∃ v, σ = [some (.int s), some (.int c), some (.ref a), v, none, none, none] ∧ Same H H2)
      ⟨none, rfl, e1⟩ (fun i σ H2 _ ⟨_, _, e2⟩ => .of (e2 _ _ ha)) ?_ ?_⟩
    · rintro i x σ H2 hi ⟨v, rfl, e2⟩
      obtain ⟨p, hp, rfl⟩ := adr_at hi
      refine ⟨_, rfl, _, rfl, _, rfl, p.1, p.2, s, c, rfl, (hw.at hp).same e2, B.ok _ (List.mem_map.mpr ⟨p, List.mem_of_getElem? hp, rfl⟩), fun H3 e3 => ⟨true, rfl, iteF ?_⟩⟩
      exact ⟨_, rfl, e2.trans e3⟩
    rintro σ H2 ⟨v, rfl, e2⟩
    -- kept = sorted([tuple(way) for way in ways])
    refine ⟨_, rfl, a, rfl, ⟨_, .of (e2 _ _ ha)⟩, fun D hD => lc_list (K := K) (a := a) (xs := adr aw) (fun i H3 => Same H2 H3 ∧ H3 D = some (.lst ((adr aw).take i))) ⟨Same.upd hD, upd_same⟩ (fun i H3 _ h3 => .of (h3.1 _ _ (e2 _ _ ha))) ?_ ?_⟩
    · rintro i x H3 hi ⟨e3, d3⟩
      obtain ⟨p, hp, rfl⟩ := adr_at hi
      refine ⟨rfl, ?_⟩
      dsimp only [tYes]
      refine iteT ⟨_, rfl, p.1, _, rfl, ((hw.at hp).same (e2.trans e3)).t, _, d3, ?_, e3.set hD, ?_⟩
      · rw [List.length_take, adr_len]
        exact small1000 (by omega)
      · rw [upd_same, take_more hi]
    rintro H3 ⟨e3, d3⟩
    rw [List.take_length] at d3
    have e3 := e2.trans e3
    refine ⟨D, aw, rfl, .of d3, fun p hp => ⟨(hw p hp).same e3, B.fig _ (List.mem_map.mpr ⟨p, hp, rfl⟩)⟩, fun bw q perm srt hq => ?_⟩
    have ew : wys bw = wys aw := ways_uniq (fun x hx => by
      obtain ⟨p, hp, rfl⟩ := List.mem_map.mp hx
      exact B.fig _ (List.mem_map.mpr ⟨p, perm.mem_iff.mp hp, rfl⟩)) (perm.map _) srt B.asc.le
    have e4 : Same H (upd H3 q (.lst (adr bw))) := e3.new hq
    have d4 : (upd H3 q (.lst (adr bw))) q = some (.lst (adr bw)) := upd_same
    have lb : bw.length = aw.length := perm.length_eq
    have hb : Stand (upd H3 q (.lst (adr bw))) bw := fun p hp => (hw p (perm.mem_iff.mp hp)).same e4
    change tSeq _ _ _ _ (upd H3 q (.lst (adr bw)))
    generalize upd H3 q (.lst (adr bw)) = H4 at e4 d4 hb ⊢
    -- no two are one
    refine ⟨_, rfl, q, _, rfl, .inl (.of d4), 1, _, rfl, ⟨by decide, by decide, (small62 (by rw [adr_len]; omega)).1, (small62 (by rw [adr_len]; omega)).2⟩, for_range (lo := 1) (n := (((adr bw).length : Int) - 1).toNat)
      (fun i σ H5 => H5 = H4 ∧ ∃ u, σ = [some (.int s), some (.int c), some (.ref a), v, some (.ref q), u, none]) ⟨rfl, none, rfl⟩ ?_ ?_⟩
    · rintro i σ H5 hi ⟨rfl, u, rfl⟩
      rw [adr_len] at hi
      obtain ⟨p, hp⟩ : ∃ p, bw[i]? = some p := ⟨_, List.getElem?_eq_getElem (by omega)⟩
      obtain ⟨p2, hp2⟩ : ∃ p, bw[i + 1]? = some p := ⟨_, List.getElem?_eq_getElem (by omega)⟩
      have ky : p.2.key < p2.2.key := asc_ne (ws := wys bw) (by rw [ew]; exact B.asc) (Nat.lt_succ_self i) (by rw [List.getElem?_map, hp]; rfl) (by rw [List.getElem?_map, hp2]; rfl)
      refine ⟨_, rfl, _, rfl, _, _, rfl, rfl, q, _, _, _, rfl, rfl, .of d4, at_of (j := i) (by omega) (adr_get hp), _, rfl, _, rfl, q, _, _, _, rfl, rfl, .of d4, at_of (j := i + 1) (by omega) (adr_get hp2), _, _, (hb.at hp).dp, (hb.at hp2).dp, shaped_row _, shaped_row _, _, rfl, ?_⟩
      rw [eqv_row, decide_eq_false (fun z => by rw [row_inj z] at ky; omega)]
      exact iteF ⟨rfl, _, rfl⟩
    rintro σ H5 ⟨rfl, u, rfl⟩
    -- begins
    refine ⟨_, rfl, q, rfl, ⟨_, .of d4⟩, fun D2 hD2 => dcT_list (K := K) (a := q) (xs := adr bw) (fun i H6 => Same H5 H6 ∧ ∃ kvs, H6 D2 = some (.dT kvs) ∧ kvs.length ≤ i ∧ PairsOf kvs ((wys bw).take i)) ⟨Same.upd hD2, [], upd_same, Nat.le_refl _, PairsOf.nil⟩ (fun i H6 _ h6 => .of (h6.1 _ _ d4)) ?_ ?_⟩
    · rintro i x H6 hi ⟨e6, kvs, d6, l6, p6⟩
      obtain ⟨p, hp, rfl⟩ := adr_at hi
      have tp := (hb.at hp).same e6
      refine ⟨rfl, _, rfl, p.1, _, 0, .int p.2.st, rfl, rfl, tp.t, rfl, _, rfl, p.1, _, 1, .int p.2.ca, rfl, rfl, tp.t, rfl, (by show 2 ≤ sizeLine; decide), fun b hb2 => ⟨kvs, pk p.2, b, rfl, upd_same, Same.upd hb2 _ _ d6, small1000 ?_, (e6.new hb2).set hD2, _, upd_same, ?_, ?_⟩⟩
      · have := lt_of_get hp
        omega
      · have := length_putK kvs (pk p.2) (V.bl true)
        omega
      · rw [take_more (show (wys bw)[i]? = some p.2 by rw [List.getElem?_map, hp]; rfl)]
        exact p6.put _ _
    rintro H6 ⟨e6, kvs, d6, l6, p6⟩
    rw [adr_len, ← wys_len bw, List.take_length, ew] at p6
    refine ⟨_, rfl, D2, kvs, rfl, d6, _, rfl, _, rfl, _, _, rfl, rfl, .inl ⟨by omega, by omega⟩, _, _, rfl, rfl, _, rfl, ?_⟩
    rw [p6.count ⟨by omega, s6⟩ ⟨by omega, c4⟩ B.ok, B.cov]
    refine iteF ⟨_, rfl, q, _, rfl, .inl ⟨.of (e6 _ _ d4), fun l hl2 => k _ l bw ((e4.trans e6).new hl2) upd_same ew (hb.same (e6.new hl2))⟩⟩
end
end K3
/-! Book: __init__, __eq__; book_text -/
namespace K3
open PySem PySem.Spec PyProof.Rows L2
abbrev sBookI : Stmt := inClass (top 14) 0
abbrev sBookE : Stmt := inClass (top 14) 4
structure BookC (K : PySem.W.Frag) (mg : Str → Option Value) (C fI fE : Addr) : Prop where
  gC : mg "Book" = some (.ref C)
  cl : Cls K C
  nS : NoAttr K C "states"
  nC : NoAttr K C "calls"
  nW : NoAttr K C "ways"
  mkr : Mk K C fI
  ins : C8.InsC K C
  eqA : PySem.W.findIn K (.ref C) "__eq__" = some (some (.ref fE))
  eqF : PySem.W.isFn K (.ref fE) = true
  fnI : ∃ fd, FunD K "__init__" "Book.__init__" (defArgs sBookI) (defBody sBookI) (defScope sBookI) [] [] fI fd
  fnE : ∃ fd, FunD K "__eq__" "Book.__eq__" (defArgs sBookE) (defBody sBookE) (defScope sBookE) [] [] fE fd
def flds (s c : Int) (q : Addr) : List (Str × V) := putF "ways" (.ref q) (putF "calls" (.int c) (putF "states" (.int s) []))
theorem ne_cs : ¬ (("calls" : Str) = "states") := by decide +kernel
theorem ne_sc : ¬ (("states" : Str) = "calls") := by decide +kernel
theorem ne_sw : ¬ (("states" : Str) = "ways") := by decide +kernel
theorem ne_cw : ¬ (("calls" : Str) = "ways") := by decide +kernel
theorem flds_s (s c : Int) (q : Addr) : (flds s c q).lookup ("states" : Str) = some (.int s) := by
  unfold flds
  rw [lookup_putF, if_neg ne_sw, lookup_putF, if_neg ne_sc, lookup_putF, if_pos rfl]
theorem flds_c (s c : Int) (q : Addr) : (flds s c q).lookup ("calls" : Str) = some (.int c) := by
  unfold flds
  rw [lookup_putF, if_neg ne_cw, lookup_putF, if_pos rfl]
theorem flds_w (s c : Int) (q : Addr) : (flds s c q).lookup ("ways" : Str) = some (.ref q) := by
  unfold flds
  rw [lookup_putF, if_pos rfl]
/-- a Book stands at p: its sizes, its ways at q, each where aw says -/
structure BookAt (C : Addr) (H : Hp) (p : Addr) (s c : Int) (q : Addr) (aw : List AW) : Prop where
  ob : ∃ dx, H p = some (.ins C dx (flds s c q))
  wy : H q = some (.tup (adr aw))
  st : Stand H aw
theorem BookAt.same {C : Addr} {H H' : Hp} {p : Addr} {s c : Int} {q : Addr} {aw : List AW} (e : Same H H') (B : BookAt C H p s c q aw) : BookAt C H' p s c q aw :=
  ⟨let ⟨dx, h⟩ := B.ob; ⟨dx, e _ _ h⟩, e _ _ B.wy, B.st.same e⟩
def spBookI (C : Addr) : Sp := fun vs H Q _ => ∃ (p dx : Addr) (s c : Int) (a : Addr) (aw : List AW), vs = [.ref p, .int s, .int c, .ref a] ∧ H p = some (.ins C dx []) ∧ BookOk s c (wys aw) ∧ H a = some (.lst (adr aw)) ∧ Stand H aw ∧
  ∀ (H' : Hp) (q : Addr) (aw' : List AW), (∀ b o, H b = some o → b ≠ p → H' b = some o) → BookAt C H' p s c q aw' → wys aw' = wys aw → Q .non H'
theorem sc_bookI : FnScope ["self", "states", "calls", "ways"] ["self", "states", "calls", "ways"] (defScope sBookI) := ⟨rfl, rfl, rfl, by decide +kernel, rfl, by decide +kernel, by decide +kernel⟩
section
variable {P : Program} {w : World} {K : PySem.W.Frag} {mg : Str → Option Value} {base : Heap}
theorem ok_bookI {C fI fE : Addr} {fd : FuncData} (T : Txt K mg) (BC : BookC K mg C fI fE) (F : FunD K "__init__" "Book.__init__" (defArgs sBookI) (defBody sBookI) (defScope sBookI) [] [] fI fd)
    (G1 : Got P w K mg base CX0 1 "is_whole" ["thing", "low", "high"] spWhole) (G2 : Got P w K mg base CX0 3 "_check_ways" ["states", "calls", "ways"] spCheck) : FnOk P w K mg base CX0 4 fI fd ["self", "states", "calls", "ways"] (spBookI C) := by
  obtain ⟨f1, fd1, F1, m1, k1, b1⟩ := G1
  obtain ⟨f2, fd2, F2, m2, k2, b2⟩ := G2
  refine F.ok sc_bookI (fun vs H Q E h => ?_) (fun cdv A outer s0 H vs Q E hr h => ?_)
  · obtain ⟨p, dx, s, c, a, aw, rfl, _⟩ := h
    rfl
  · obtain ⟨p, dx, s, c, a, aw, rfl, hp, B, ha, hw, k⟩ := h
    have hr1 : Room 1 _ := hr.mono (by decide)
    refine ⟨_, PSs.nox (pss_cons (ps_if (pt_not (pt_val (pe_call F1 hr1 rfl m1 k1 b1 .nil pass0 (pa_cons (pv 1) (pa_cons pe_int (pa_cons (pe_num T.mStates) pa_nil)))))) (pss_one ps_never) pss_nil)
      (pss_cons (ps_if (pt_not (pt_val (pe_call F1 hr1 rfl m1 k1 b1 .nil pass0 (pa_cons (pv 2) (pa_cons pe_int (pa_cons (pe_num T.mCalls) pa_nil)))))) (pss_one ps_never) pss_nil)
      (pss_cons (ps_fld (pv 0) (pv 1) rfl)
      (pss_cons (ps_fld (pv 0) (pv 2) rfl)
      (pss_one (ps_fld (pv 0) (pe_call F2 hr rfl m2 k2 b2 .nil pass0 (pa_cons (pv 1) (pa_cons (pv 2) (pa_cons (pv 3) pa_nil)))) rfl)))))), ?_⟩
    refine ⟨_, rfl, s, 1, 6, rfl, B.s1, B.s6, true, rfl, iteF ?_⟩
    refine ⟨_, rfl, c, 1, 4, rfl, B.c1, B.c4, true, rfl, iteF ?_⟩
    refine ⟨_, rfl, _, rfl, p, C, dx, [], rfl, hp, BC.cl, BC.nS, (by show 0 < 1000; decide), ?_⟩
    refine ⟨_, rfl, _, rfl, p, C, dx, _, rfl, upd_same, BC.cl, BC.nC, (by show 1 < 1000; decide), ?_⟩
    rw [upd_upd]
    have np : ∀ b o, H b = some o → b ≠ p → upd H p (.ins C dx (putF "calls" (.int c) (putF "states" (.int s) []))) b = some o := fun b o e n => by
      rw [upd_ne n]
      exact e
    have nl : ∀ {b : Addr} {o : HO}, H b = some o → (∀ C dx fs, o ≠ .ins C dx fs) → b ≠ p := fun e n => ne_of e hp (n _ _ _)
    refine ⟨_, rfl, _, rfl, _, rfl, s, c, a, aw, rfl, B, np _ _ ha (nl ha (by intro _ _ _ z; cases z)), fun r hr => np _ _ (hw r hr) (nl (hw r hr) (by intro _ _ _ z; cases z)), fun H' q aw' sm hq ew hst => ?_⟩
    have hp' := sm p _ upd_same
    have q0 : q ≠ p := ne_of hq hp' (by intro z; cases z)
    refine ⟨_, rfl, p, C, dx, _, rfl, hp', BC.cl, BC.nW, ?_, k _ q aw' (fun b o e n => ?_) ⟨⟨dx, upd_same⟩, by rw [upd_ne q0]; exact hq, fun r hr => ?_⟩ ew⟩
    · have := length_putF "calls" (.int c) (putF "states" (.int s) [])
      have := length_putF "states" (.int s) []
      simp only [List.length_nil] at this
      omega
    · rw [upd_ne n]
      exact sm _ _ (np b o e n)
    · have e := hst r hr
      show upd H' p _ r.1 = _
      rw [upd_ne (ne_of e hp' (by intro z; cases z))]
      exact e
def eqR (C : Addr) : Addr → Addr → Hp → Prop := fun a b H => ∃ s c q q' aw aw', BookAt C H a s c q aw ∧ BookAt C H b s c q' aw' ∧ wys aw' = wys aw
theorem eqR_ext (C : Addr) : ∀ a b H H', Ext H H' → eqR C a b H → eqR C a b H' := fun a b H H' e ⟨s, c, q, q', aw, aw', h1, h2, h3⟩ => ⟨s, c, q, q', aw, aw', h1.same e, h2.same e, h3⟩
theorem sc_bookE : FnScope ["self", "other"] ["self", "other"] (defScope sBookE) := ⟨rfl, rfl, rfl, by decide +kernel, rfl, by decide +kernel, by decide +kernel⟩
theorem BookAt.dp {C : Addr} {H : Hp} {p : Addr} {s c : Int} {q : Addr} {aw : List AW} (B : BookAt C H p s c q aw) : Dp K H (.ref q) (.tuple (((wys aw).map Way.row).map dRow)) := .tup (.of B.wy) (rows_of B.st).dp
theorem ok_bookE {C fI fE : Addr} {fd : FuncData} (T : Txt K mg) (BC : BookC K mg C fI fE) (F : FunD K "__eq__" "Book.__eq__" (defArgs sBookE) (defBody sBookE) (defScope sBookE) [] [] fE fd) : FnOk P w K mg base CX0 1 fE fd ["self", "other"] (spEq (eqR C)) := by
  refine F.ok sc_bookE (fun vs H Q E h => ?_) (fun cdv A outer s0 H vs Q E hr h => ?_)
  · obtain ⟨a, b, rfl, _⟩ := h
    rfl
  · obtain ⟨a, b, rfl, ⟨s, c, q, q', aw, aw', ⟨⟨dx, h1⟩, w1, t1⟩, ⟨⟨dy, h2⟩, w2, t2⟩, ew⟩, k⟩ := h
    refine ⟨_, PSs.nox (pss_one (ps_ret (pe_and (pe_callB (C8.call_isC BC.ins) rfl T.isin (by decide +kernel) (pa_cons (pv 1) (pa_cons (pe_glob (v := .ref C) rfl BC.gC rfl) pa_nil)))
      (pe_and (pe_cmpR op_eq (pe_fld (pv 0) rfl) (pe_fld (pv 1) rfl) (nomark _)) (pe_and (pe_cmpR op_eq (pe_fld (pv 0) rfl) (pe_fld (pv 1) rfl) (nomark _)) (pe_one (pe_cmpR (op_eqD hr.units) (pe_fld (pv 0) rfl) (pe_fld (pv 1) rfl) (nomark _)))))))), ?_⟩
    refine ⟨_, rfl, b, dy, _, rfl, h2, true, rfl, iteT ?_⟩
    refine ⟨_, rfl, a, C, dx, _, _, rfl, h1, BC.cl, BC.nS, flds_s _ _ _, _, rfl, b, C, dy, _, _, rfl, h2, BC.cl, BC.nS, flds_s _ _ _, rfl, _, rfl, ?_⟩
    rw [decide_eq_true rfl]
    refine iteT ⟨_, rfl, a, C, dx, _, _, rfl, h1, BC.cl, BC.nC, flds_c _ _ _, _, rfl, b, C, dy, _, _, rfl, h2, BC.cl, BC.nC, flds_c _ _ _, rfl, _, rfl, ?_⟩
    rw [decide_eq_true rfl]
    refine iteT ⟨_, rfl, a, C, dx, _, _, rfl, h1, BC.cl, BC.nW, flds_w _ _ _, _, rfl, b, C, dy, _, _, rfl, h2, BC.cl, BC.nW, flds_w _ _ _, _, _, BookAt.dp ⟨⟨dx, h1⟩, w1, t1⟩, BookAt.dp ⟨⟨dy, h2⟩, w2, t2⟩, shaped_rowsT _, shaped_rowsT _, ?_⟩
    rw [ew, eqv_rows]
    exact k H Ext.rfl'
end
/-! ### f-strings of figures -/
theorem fig_log {n : Int} (h : 0 ≤ n ∧ n ≤ 9) : n.natAbs.log2 < 1920 := by
  have h1 : n.natAbs < 10 := by omega
  have h2 : ∀ k < 10, Nat.log2 k < 1920 := by decide +kernel
  exact h2 _ h1
theorem fig_S {n : Int} (h : 0 ≤ n ∧ n ≤ 9) : Str.ofString (toString n) = S [dg n] := str_iff.mpr (tl_fig h)
section
variable {a l : List Nat} {ts : List TE} {σ : L2.St} {H : Hp} {Q : Str → Hp → Prop}
theorem cat_len (h : a.length + l.length ≤ 100) : (S a ++ S l).length ≤ sizeLine := by
  rw [SX.S_cat, show (S (a ++ l)).length = (a ++ l).length from SX.S_len _, List.length_append]
  exact Nat.le_trans h (by decide)
/-- a written part -/
theorem js_str {z : Str} (hz : z = S l) (hl : a.length + l.length ≤ 100) (h : tJs ts (S (a ++ l)) σ H Q) : ∃ y : Str, V.str z = .str y ∧ (S a ++ y).length ≤ sizeLine ∧ tJs ts (S a ++ y) σ H Q := by
  subst hz
  exact ⟨_, rfl, cat_len hl, by rw [SX.S_cat]; exact h⟩
/-- a figure -/
theorem js_fig {n : Int} (hn : 0 ≤ n ∧ n ≤ 9) (hl : a.length ≤ 99) (h : tJs ts (S (a ++ [dg n])) σ H Q) :
    (∃ y : Str, V.int n = .str y ∧ y.length ≤ sizeLine ∧ ∃ x : Str, V.str y = .str x ∧ (S a ++ x).length ≤ sizeLine ∧ tJs ts (S a ++ x) σ H Q) ∨
      ∃ i : Int, V.int n = .int i ∧ i.natAbs.log2 < 1920 ∧ ∃ x : Str, V.str (toString i) = .str x ∧ (S a ++ x).length ≤ sizeLine ∧ tJs ts (S a ++ x) σ H Q :=
  .inr ⟨n, rfl, fig_log hn, js_str (fig_S hn) (by show a.length + 1 ≤ 100; omega) h⟩
end
theorem t_bookb : (Str.ofString "book ") = S [98, 111, 111, 107, 32] := by decide +kernel
/-! ### book_text -/
def spText (C : Addr) : Sp := fun vs H Q _ => ∃ (p : Addr) (s c : Int) (q : Addr) (aw : List AW), vs = [.ref p] ∧ BookAt C H p s c q aw ∧ BookOk s c (wys aw) ∧ ∀ H', Same H H' → Q (.str (bookT s c (wys aw))) H'
theorem sc_text : FnScope ["book", "lines", "state", "call", "answer", "after"] ["book"] (defScope (top 19)) := ⟨rfl, rfl, rfl, by decide +kernel, rfl, by decide +kernel, by decide +kernel⟩
theorem book_wt {s c : Int} {ws : List Way} (h : ws.length ≤ 432) : wt (sizeT s c :: ws.map Way.txt) ≤ 16777216 := by
  have q : ∀ vs : List Way, wt (vs.map Way.txt) = 8 * vs.length := by
    intro vs
    induction vs with
    | nil => rfl
    | cons v r ih => rw [List.map_cons, wt_cons, ih, show v.txt.length = 7 from SX.S_len _, List.length_cons]; omega
  rw [wt_cons, q, show (sizeT s c).length = 8 from SX.S_len _]
  omega
section
variable {P : Program} {w : World} {K : PySem.W.Frag} {mg : Str → Option Value} {base : Heap}
theorem got_text {C fI fE : Addr} (T : Txt K mg) (BC : BookC K mg C fI fE) (D : DefAt K mg "book_text" (top 19)) : Got P w K mg base CX0 1 "book_text" ["book"] (spText C) := by
  refine got0 D sc_text (fun _ _ _ _ _ _ us hl => match us, hl with | [_], _ => rfl) (fun vs H Q E h => ?_) (fun f cdv A outer s0 H vs Q E hr h => ?_)
  · obtain ⟨p, s, c, q, aw, rfl, _⟩ := h
    rfl
  · obtain ⟨p, s, c, q, aw, rfl, ⟨⟨dx, hp⟩, hq, hst⟩, B, k⟩ := h
    have s1 := B.s1
    have s6 := B.s6
    have c1 := B.c1
    have c4 := B.c4
    refine ⟨_, pss_cons (ps_set (i := 1) sc_text.nd rfl (.inl rfl) (pe_lst (pa_cons (pe_joined (.cons pe_str (.cons (pe_fmt (pe_fld (pv 0) rfl)) (.cons pe_str (.cons (pe_fmt (pe_fld (pv 0) rfl)) .nil))))) pa_nil)))
      (pss_cons (ps_for PassesOwn.never rfl (pi_tup (pe_fld (pv 0) rfl)) (pg_tup rfl (pgs_cons (pg_name (i := 2) sc_text.nd rfl (.inl rfl)) (pgs_cons (pg_name (i := 3) sc_text.nd rfl (.inl rfl)) (pgs_cons (pg_name (i := 4) sc_text.nd rfl (.inl rfl)) (pgs_cons (pg_name (i := 5) sc_text.nd rfl (.inl rfl)) pgs_nil)))))
        (pss_one (ps_expr (pe_bm PySem.F.plainAttrs_list PySem.F.slot_list_append PySem.F.type_list_append mt_append (pv 1) (pa_cons
          (pe_joined (.cons (pe_fmt (pv 2)) (.cons pe_str (.cons (pe_fmt (pv 3)) (.cons pe_str (.cons (pe_fmt (pv 4)) (.cons pe_str (.cons (pe_fmt (pv 5)) .nil)))))))) pa_nil)))))
      (pss_one (ps_ret (pe_join pe_str (pv 1))))), ?_⟩
    -- lines = [f"book ..."]
    refine js_str (a := []) t_bookb (Nat.le_of_ble_eq_true rfl) ⟨_, rfl, p, C, dx, _, _, rfl, hp, BC.cl, BC.nS, flds_s _ _ _, js_fig ⟨by omega, by omega⟩ (Nat.le_of_ble_eq_true rfl) (js_str t_blank (Nat.le_of_ble_eq_true rfl) ⟨_, rfl, p, C, dx, _, _, rfl, hp, BC.cl, BC.nC, flds_c _ _ _, js_fig ⟨by omega, by omega⟩ (Nat.le_of_ble_eq_true rfl) ?_⟩)⟩
    refine ⟨(by show 1 ≤ sizeLine; decide), fun L hL => ?_⟩
    have d1 : upd H L (.lst [.str (sizeT s c)]) L = some (.lst ((sizeT s c :: ((wys aw).take 0).map Way.txt).map V.str)) := upd_same
    -- for state, call, answer, after in book.ways
    refine ⟨_, rfl, p, C, dx, _, _, rfl, Same.upd hL _ _ hp, BC.cl, BC.nW, flds_w _ _ _, q, rfl, ⟨_, .of (Same.upd hL _ _ hq)⟩, for_tup (K := K) (a := q) (xs := adr aw)
      (fun i σ H2 => ∃ v2 v3 v4 v5, σ = [some (.ref p), some (.ref L), v2, v3, v4, v5] ∧ Same H H2 ∧ H2 L = some (.lst ((sizeT s c :: ((wys aw).take i).map Way.txt).map V.str)))
      ⟨none, none, none, none, rfl, Same.upd hL, d1⟩ (fun i σ H2 _ ⟨_, _, _, _, _, e2, _⟩ => .of (e2 _ _ hq)) ?_ ?_⟩
    · rintro i x σ H2 hi ⟨v2, v3, v4, v5, rfl, e2, d2⟩
      obtain ⟨r, hr, rfl⟩ := adr_at hi
      obtain ⟨g1, g2, g3, g4⟩ := B.fig r.2 (List.mem_map.mpr ⟨r, List.mem_of_getElem? hr, rfl⟩)
      refine ⟨r.1, _, rfl, ((hst.at hr).same e2).t, rfl, _, _, rfl, _, _, rfl, _, _, rfl, _, _, rfl, rfl, ?_⟩
      refine ⟨_, rfl, .inl ⟨rfl, _, .of d2⟩, ?_⟩
      refine ⟨_, rfl, js_fig (a := []) g1 (Nat.le_of_ble_eq_true rfl) (js_str t_blank (Nat.le_of_ble_eq_true rfl) ⟨_, rfl, js_fig g2 (Nat.le_of_ble_eq_true rfl) (js_str t_blank (Nat.le_of_ble_eq_true rfl) ⟨_, rfl, js_fig g3 (Nat.le_of_ble_eq_true rfl) (js_str t_blank (Nat.le_of_ble_eq_true rfl) ⟨_, rfl, js_fig g4 (Nat.le_of_ble_eq_true rfl) ?_⟩)⟩)⟩)⟩
      refine ⟨L, _, _, rfl, rfl, d2, ?_, _, _, _, _, rfl, e2.set hL, ?_⟩
      · have := lt_of_get hr
        have := B.len
        rw [wys_len] at this
        rw [List.length_map, List.length_cons, List.length_map, List.length_take]
        exact small1000 (by omega)
      · rw [upd_same, take_more (show (wys aw)[i]? = some r.2 by rw [List.getElem?_map, hr]; rfl)]
        rw [List.map_append, List.map_cons, List.map_cons, List.map_append]
        rfl
    · rintro σ H2 ⟨v2, v3, v4, v5, rfl, e2, d2⟩
      rw [adr_len, ← wys_len aw, List.take_length] at d2
      refine ⟨⟨_, rfl⟩, _, rfl, _, L, _, rfl, rfl, .inl (.of d2), ?_, ?_⟩
      · rw [t_line]
        exact join_fit 10 (book_wt B.len)
      · rw [t_line]
        exact k H2 e2
end
end K3
/-! read_book -/
namespace K3
open PySem PySem.Spec PyProof.Rows L2
def spRead (K : PySem.W.Frag) (Cb C : Addr) : Sp := fun vs H Q E => ∃ x : V, vs = [x] ∧
  ((∃ z : Str, x = .str z ∧ z.length ≤ 1000000 ∧ (∀ k : Nat, bookOf z = .error k → Raised Cb (k : Int) H E) ∧ ∀ s c ws, bookOf z = .ok (s, c, ws) → BookOk s c ws → ∀ (H' : Hp) (p q : Addr) (aw : List AW), Same H H' → BookAt C H' p s c q aw → wys aw = ws → Q (.ref p) H') ∨
   (∃ t, TyX K H x t ∧ PySem.W.kitOne K t (.type "str") = some false ∧ Raised Cb 0 H E))
theorem sc_read : FnScope ["text", "lines", "states", "calls", "ways", "begins", "place", "way"] ["text"] (defScope (top 23)) := ⟨rfl, rfl, rfl, by decide +kernel, rfl, by decide +kernel, by decide +kernel⟩
theorem drop_more {α : Type} {l : List α} {i : Nat} {x : α} (h : l[i]? = some x) : l.drop i = x :: l.drop (i + 1) := by
  obtain ⟨h1, h2⟩ := List.getElem?_eq_some_iff.mp h
  rw [← h2]
  exact List.drop_eq_getElem_cons h1
theorem last_split {α : Type} (l : List α) : l = [] ∨ ∃ m x, l = m ++ [x] := by
  rcases List.eq_nil_or_concat l with h | ⟨m, x, h⟩
  · exact .inl h
  · exact .inr ⟨m, x, by rw [h, List.concat_eq_append]⟩
theorem adr_snoc (aw : List AW) (p : AW) : adr (aw ++ [p]) = adr aw ++ [V.ref p.1] := by
  unfold adr refs
  rw [List.map_append, List.map_append]
  rfl
theorem wys_snoc (aw : List AW) (p : AW) : wys (aw ++ [p]) = wys aw ++ [p.2] := by
  unfold wys
  rw [List.map_append]
  rfl
theorem Stand.snoc {H : Hp} {aw : List AW} {p : AW} (h : Stand H aw) (t : Tup H p.1 p.2.row) : Stand H (aw ++ [p]) := fun q hq => by
  rcases List.mem_append.mp hq with hq | hq
  · exact h q hq
  · rw [List.mem_singleton] at hq
    subst hq
    exact t
theorem Stand.dpL {K : PySem.W.Frag} {H : Hp} {aw : List AW} {A : Addr} (h : Stand H aw) (d : H A = some (.lst (adr aw))) : Dp K H (.ref A) (.list (((wys aw).map Way.row).map dRow)) := .lst (.of d) (rows_of h).dp
theorem bookOf_none {z l : Str} {r : List Str} (el : parts z 10 = l :: r) (es : sizesOf l = none) : bookOf z = .error 0 := by
  unfold bookOf
  rw [el]
  simp only [es]
theorem bookOf_err {z l : Str} {r : List Str} {s c : Int} {k : Nat} (el : parts z 10 = l :: r) (es : sizesOf l = some (s, c)) (e : scan s c 1 (-1) r = .error k) : bookOf z = .error k := by
  unfold bookOf
  rw [el]
  simp only [es, e]
theorem bookOf_gap {z l : Str} {r : List Str} {s c : Int} {ws : List Way} (el : parts z 10 = l :: r) (es : sizesOf l = some (s, c)) (e : scan s c 1 (-1) r = .ok ws) (h : covers s c ws = false) : bookOf z = .error (r.length + 1) := by
  unfold bookOf
  rw [el]
  simp only [es, e, h]
  rfl
theorem bookOf_ok {z l : Str} {r : List Str} {s c : Int} {ws : List Way} (el : parts z 10 = l :: r) (es : sizesOf l = some (s, c)) (e : scan s c 1 (-1) r = .ok ws) (h : covers s c ws = true) : bookOf z = .ok (s, c, ws) := by
  unfold bookOf
  rw [el]
  simp only [es, e, h]
  rfl
theorem lt_line {n : Nat} (h : n ≤ 1000000) : n < sizeLine := Nat.lt_of_lt_of_le (Nat.lt_add_of_pos_right (by decide)) (small_line h)
/-- what scan has told so far -/
structure ScanAt (s c : Int) (r : List Str) (i : Nat) (ws : List Way) : Prop where
  len : ws.length = i
  ok : ∀ x ∈ ws, x.ok s c
  ge : -1 ≤ lastKey ws
  eq : scan s c 1 (-1) r = glue ws (scan s c (1 + i) (lastKey ws) (r.drop i))
theorem ScanAt.nil {s c : Int} {r : List Str} : ScanAt s c r 0 [] := ⟨rfl, fun x hx => by (cases hx), Int.le_refl _, by rw [glue_nil]; rfl⟩
theorem ScanAt.bad {s c : Int} {r : List Str} {i : Nat} {ws : List Way} (h : ScanAt s c r i ws) {l : Str} (hl : r[i]? = some l) (e : wayOf l s c = none) : scan s c 1 (-1) r = .error (1 + i) := by
  rw [h.eq, drop_more hl, scan_none e]
  rfl
theorem ScanAt.low {s c : Int} {r : List Str} {i : Nat} {ws : List Way} (h : ScanAt s c r i ws) {l : Str} {x : Way} (hl : r[i]? = some l) (e : wayOf l s c = some x) (k : x.key ≤ lastKey ws) : scan s c 1 (-1) r = .error (1 + i) := by
  rw [h.eq, drop_more hl, scan_low e k]
  rfl
theorem key_nn {x : Way} (h : x.fig) : 0 ≤ x.key := by
  obtain ⟨h1, h2, h3, h4⟩ := h
  unfold Way.key
  omega
theorem ScanAt.go {s c : Int} (hs : s ≤ 6) (hc : c ≤ 4) {r : List Str} {i : Nat} {ws : List Way} (h : ScanAt s c r i ws) {l : Str} {x : Way} (hl : r[i]? = some l) (e : wayOf l s c = some x) (k : ¬ x.key ≤ lastKey ws) : ScanAt s c r (i + 1) (ws ++ [x]) := by
  have ox := ((way_iff hs hc).mp e).1
  refine ⟨by rw [List.length_append, h.len]; rfl, fun y hy => ?_, by rw [lastKey_snoc]; have := key_nn (ox.fig hs hc); omega, ?_⟩
  · rcases List.mem_append.mp hy with hy | hy
    · exact h.ok y hy
    · rw [List.mem_singleton] at hy
      subst hy
      exact ox
  · rw [h.eq, drop_more hl, scan_go e k, glue_glue, lastKey_snoc]
    rfl
theorem ScanAt.done {s c : Int} {r : List Str} {ws : List Way} (h : ScanAt s c r r.length ws) : scan s c 1 (-1) r = .ok ws := by
  rw [h.eq, List.drop_length]
  show Except.ok (ws ++ []) = _
  rw [List.append_nil]
section
variable {P : Program} {w : World} {K : PySem.W.Frag} {mg : Str → Option Value} {base : Heap}
theorem got_read {Cb fB C fI fE : Addr} (T : Txt K mg) (B : Bad K mg Cb fB) (BC : BookC K mg C fI fE) (D : DefAt K mg "read_book" (top 23)) (G1 : Got P w K mg base CX0 1 "is_whole" ["thing", "low", "high"] spWhole) (G2 : Got P w K mg base CX0 3 "_check_ways" ["states", "calls", "ways"] spCheck)
    (G3 : Got P w K mg base (L2.CX P w) 3 "_read_sizes" ["line"] (spSizes Cb)) (G4 : Got P w K mg base CX0 2 "_read_way" ["line", "states", "calls"] spWay) : Got P w K mg base (L2.CX P w) 6 "read_book" ["text"] (spRead K Cb C) := by
  obtain ⟨f3, fd3, F3, m3, k3, b3⟩ := G3
  obtain ⟨f4, fd4, F4, m4, k4, b4⟩ := G4
  obtain ⟨fdI, FI⟩ := BC.fnI
  refine got_of D sc_read (fun _ _ _ _ _ _ us hl => match us, hl with | [_], _ => rfl) (fun vs H Q E h => ?_) (fun f cdv A0 outer s0 H vs Q E hr h => ?_)
  · obtain ⟨x, rfl, _⟩ := h
    rfl
  · obtain ⟨x, rfl, h⟩ := h
    have hr3 : Room 3 _ := hr.mono (by decide)
    have hr2 : Room 2 _ := hr.mono (by decide)
    refine ⟨_, pss_cons (ps_if (pt_not (pt_val (pe_isin T.isin (pv 0) (pe_ty T.str bt_str)))) (pss_one (ps_bad (k := 1) B hr3 rfl (takes_of rfl rfl rfl rfl) pe_int)) pss_nil)
      (pss_cons (ps_set (i := 1) sc_read.nd rfl (.inl rfl) (pe_split (pv 0) pe_str))
      (pss_cons (ps_asg (pe_call F3 hr3 rfl m3 k3 b3 .nil (passes_call (takes_of rfl rfl rfl rfl) (fun _ _ _ _ e => e)) (pa_cons (pe_ix ix_list (pv 1) pe_int (fun _ _ => rfl)) pa_nil)) (pg_tup rfl (pgs_cons (pg_name (i := 2) sc_read.nd rfl (.inl rfl)) (pgs_cons (pg_name (i := 3) sc_read.nd rfl (.inl rfl)) pgs_nil))))
      (pss_cons (ps_set (i := 4) sc_read.nd rfl (.inl rfl) (pe_lst pa_nil))
      (pss_cons (ps_set (i := 5) sc_read.nd rfl (.inl rfl) pe_dnewT)
      (pss_cons (ps_for (passes_of rfl) rfl (pi_range2 rfl T.range (pa_cons pe_int (pa_cons (pe_len T.len (pv 1)) pa_nil))) (pg_name (i := 6) sc_read.nd rfl (.inl rfl))
        (pss_cons (ps_set (i := 7) sc_read.nd rfl (.inl rfl) (pe_call F4 hr2 rfl m4 k4 b4 .nil pass0 (pa_cons (pe_ix ix_list (pv 1) (pv 6) (fun _ _ => rfl)) (pa_cons (pv 2) (pa_cons (pv 3) pa_nil)))))
        (pss_cons (ps_if (PW.pt (pw_or (pt_cmp (pc_isN (pv 7)) rfl) (pw_or1 (PW.pt (pw_and (pt_cmpR (op_neD hr.units) (pv 4) (pe_lst pa_nil) (nomark _)) (pw_and1 (pt_cmpR (op_leT (Nat.lt_of_le_of_lt (Nat.le_add_right _ 64) hr.units)) (pv 7) (pe_ix ix_list (pv 4) (pe_un un_neg pe_int) (fun _ _ => rfl)) (nomark _))))))))
            (pss_one (ps_bad (k := 1) B hr3 rfl (takes_of rfl rfl rfl rfl) (pv 6))) pss_nil)
        (pss_cons (ps_expr (pe_bm PySem.F.plainAttrs_list PySem.F.slot_list_append PySem.F.type_list_append mt_append (pv 4) (pa_cons (pv 7) pa_nil)))
        (pss_one (ps_dput (hu_of hr) (pv 5) (pe_tup (pa_cons (pe_ix ix_tup (pv 7) pe_int (fun _ _ => rfl)) (pa_cons (pe_ix ix_tup (pv 7) pe_int (fun _ _ => rfl)) pa_nil))) pe_bl rfl))))))
      (pss_cons (ps_if (pt_cmpR op_lt (pe_callB call_len_dT rfl T.len PySem.boot_len (pa_cons (pv 5) pa_nil)) (pe_op op_mul (pv 2) (pv 3)) (nomark _)) (pss_one (ps_bad (k := 1) B hr3 rfl (takes_of rfl rfl rfl rfl) (pe_len T.len (pv 1)))) pss_nil)
      (pss_one (ps_ret (pe_make BC.mkr (ok_bookI T BC FI G1 G2) hr rfl BC.gC (FI.bindsN fun _ _ _ _ _ _ us hl => match us, hl with | [_, _, _, _], _ => rfl) .nil pass0 (pa_cons (pv 2) (pa_cons (pv 3) (pa_cons (pv 4) pa_nil)))))))))))), ?_⟩
    rcases h with ⟨z, rfl, hz, kE, kQ⟩ | ⟨t, ty, kt, kR⟩
    case inr => exact ⟨_, rfl, _, _, _, _, false, rfl, .ty "str", ty, kt, false, rfl, iteT (bad_reads kR)⟩
    refine ⟨_, rfl, _, _, _, _, true, rfl, .ty "str", .base (.str z), kit_ty (by decide +kernel), true, rfl, iteF ?_⟩
    -- lines = text.split("\n")
    refine ⟨_, rfl, ⟨_, rfl⟩, z, _, rfl, rfl, (by decide +kernel), small_line hz, fun L hL => ?_⟩
    have s1 : Same H (upd H L (.lst ((Txt.split z (Str.ofString "\n")).map V.str))) := Same.upd hL
    have dL : upd H L (.lst ((Txt.split z (Str.ofString "\n")).map V.str)) L = some (.lst ((parts z 10).map V.str)) := by
      rw [upd_same, t_line]
      rfl
    generalize upd H L (.lst ((Txt.split z (Str.ofString "\n")).map V.str)) = H1 at s1 dL ⊢
    obtain ⟨l, r, el⟩ : ∃ l r, parts z 10 = l :: r := by
      cases q : parts z 10 with
      | nil => exact absurd q (parts_ne (by decide) z)
      | cons l r => exact ⟨l, r, rfl⟩
    have hw : wt (parts z 10) = z.length + 1 := wt_parts (by decide) z
    have hn := wt_len (parts z 10)
    rw [el] at dL hw hn
    have ll : l.length ≤ 1000000 := parts_small (by decide : 10 < 256) hz (by rw [el]; simp)
    have lr : ∀ y ∈ r, y.length ≤ 1000000 := fun y hy => parts_small (by decide : 10 < 256) hz (by rw [el]; exact List.mem_cons_of_mem _ hy)
    rw [List.map_cons] at dL
    refine ⟨_, rfl, L, _, 0, .str l, rfl, rfl, .of dL, at_of (j := 0) rfl rfl, l, rfl, ll, fun es => (kE 0 (bookOf_none el es)).same s1, fun s c es p H2 s2 hp => ?_⟩
    obtain ⟨⟨⟨h1, h6⟩, h1', h4⟩, _⟩ := sizes_iff.mp es
    refine ⟨p, _, rfl, .of hp, rfl, _, _, rfl, _, _, rfl, rfl, ?_⟩
    have s3 := s1.trans s2
    have dL := s2 _ _ dL
    refine ⟨(by show 0 ≤ sizeLine; decide), fun A hA => ?_⟩
    refine fun Dd hD => ?_
    have hD2 : H2 Dd = none := by
      cases q : H2 Dd with
      | none => rfl
      | some o => rw [Same.upd hA _ _ q] at hD; cases hD
    have nDA : Dd ≠ A := fun q => by rw [q, upd_same] at hD; cases hD
    -- the walk
    refine ⟨_, rfl, L, _, rfl, .inl (.of (Same.upd hD _ _ (Same.upd hA _ _ dL))), 1, _, rfl, ⟨by decide, by decide, (small62 (by rw [List.length_cons, List.length_map]; rw [List.length_cons] at hn; omega)).1, (small62 (by rw [List.length_cons, List.length_map]; rw [List.length_cons] at hn; omega)).2⟩,
      for_range (lo := 1) (n := (((V.str l :: r.map V.str).length : Int) - 1).toNat)
      (fun i σ H3 => ∃ (pl wv : Option V) (aw : List AW) (kvs : List (List Key × V)), σ = [some (.str z), some (.ref L), some (.int s), some (.int c), some (.ref A), some (.ref Dd), pl, wv] ∧ Same H2 H3 ∧ H3 A = some (.lst (adr aw)) ∧ H3 Dd = some (.dT kvs) ∧
        Stand H3 aw ∧ PairsOf kvs (wys aw) ∧ kvs.length ≤ i ∧ ScanAt s c r i (wys aw))
      ⟨none, none, [], [], rfl, (Same.upd hA).new hD, Same.upd hD _ _ upd_same, upd_same, fun p hp => by (cases hp), PairsOf.nil, Nat.le_refl _, ScanAt.nil⟩ ?_ ?_⟩
    · rintro i σ H3 hi ⟨pl, wv, aw, kvs, rfl, e3, dA, dD, st, po, kl, sc⟩
      rw [List.length_cons, List.length_map] at hi
      obtain ⟨y, hy⟩ : ∃ y, r[i]? = some y := ⟨_, List.getElem?_eq_getElem (by omega)⟩
      have ly := lr y (List.mem_of_getElem? hy)
      have dL3 := e3 _ _ dL
      have ek : ((1 + i : Nat) : Int) = 1 + (i : Int) := by omega
      have bad : scan s c 1 (-1) r = .error (1 + i) → ∀ H', Same H3 H' → Raised Cb (1 + (i : Int)) H' E := fun e H' e' => by
        rw [← ek]
        exact (kE _ (bookOf_err el es e)).same ((s3.trans e3).trans e')
      -- way = _read_way(lines[place], states, calls)
      refine ⟨_, rfl, _, rfl, L, _, _, .str y, rfl, rfl, .of dL3, at_of (j := i + 1) (by omega) (by rw [List.getElem?_cons_succ, List.getElem?_map, hy]; rfl), _, rfl, _, rfl, y, s, c, rfl, ly, fun ew H4 e4 => ?_, fun x ew p H4 e4 tp => ?_⟩
      · exact ⟨_, rfl, _, rfl, ifT (decide_eq_true rfl) (ifT rfl ⟨_, rfl, bad_reads (bad (sc.bad hy ew) _ e4)⟩)⟩
      · have ox := ((way_iff h6 h4).mp ew).1
        refine ⟨_, rfl, _, rfl, ifF (decide_eq_false (fun q => by cases q)) ?_⟩
        refine ⟨_, rfl, (by show 0 ≤ sizeLine; decide), fun q hq => ⟨_, _, Stand.dpL (st.same (e4.new hq)) ((e4.new hq) _ _ dA), .lst (.of upd_same) .nil, shaped_rowsL _, shaped_rowsL [], _, rfl, ?_⟩⟩
        rw [eqv_nil]
        have e5 : Same H3 (upd H4 q (.lst [])) := e4.new hq
        have tp5 : Tup (upd H4 q (.lst [])) p x.row := tp.same (Same.upd hq)
        generalize upd H4 q (.lst []) = H5 at e5 tp5 ⊢
        have hn5 : r.length ≤ 1000000 := by rw [List.length_cons] at hn; omega
        have la : (adr aw).length = i := by rw [adr_len, ← wys_len, sc.len]
        have nA : H2 A = none := hA
        have lk : aw = [] → ¬ x.key ≤ lastKey (wys aw) := fun q => by
          rw [q]
          have := key_nn (ox.fig h6 h4)
          show ¬ x.key ≤ -1
          omega
        have hkk : (aw = [] ∨ ∃ m pv, aw = m ++ [pv]) := last_split aw
        have hbr : ∀ {G1 G2 : Prop}, (¬ x.key ≤ lastKey (wys aw) → G2) → (scan s c 1 (-1) r = .error (1 + i) → G1) → (if decide (x.key ≤ lastKey (wys aw)) = true then G1 else G2) := fun {G1 G2} g2 g1 => by
          by_cases k : x.key ≤ lastKey (wys aw)
          · rw [decide_eq_true k]
            exact g1 (sc.low hy ew k)
          · rw [decide_eq_false k]
            exact g2 k
        rcases hkk with hz | ⟨m, pv, hz⟩
        case' inl => refine ifF (by rw [hz]; rfl) (ifF rfl ?_); have hkey := lk hz
        case' inr =>
          have ea : adr aw = adr m ++ [V.ref pv.1] := by rw [hz, adr_snoc]
          have ek2 : pv.2.key = lastKey (wys aw) := by rw [hz, wys_snoc, lastKey_snoc]
          have mp : pv ∈ aw := by rw [hz]; exact List.mem_append_right _ (List.mem_singleton.mpr rfl)
          refine ifT (by rw [hz, wys_snoc]; cases wys m <;> rfl) ⟨_, rfl, _, rfl, 1, rfl, A, _, _, _, rfl, rfl, .of (e5 _ _ dA), by rw [ea]; exact atI_last _ _, p, pv.1, x.row, pv.2.row, rfl, rfl, tp5.t, ((st pv mp).same e5).t, _, rfl, ?_⟩
          rw [row_le (ox.fig h6 h4) ((sc.ok _ (List.mem_map.mpr ⟨pv, mp, rfl⟩)).fig h6 h4), ek2]
          refine hbr (fun hkey => ?_) (fun e => ⟨_, rfl, bad_reads (bad e _ e5)⟩)
        all_goals
          refine ⟨_, rfl, .inl ⟨rfl, _, .of (e5 _ _ dA)⟩, ?_⟩
          refine ⟨_, rfl, A, _, _, rfl, rfl, e5 _ _ dA, ?_, ?_⟩
          · exact lt_line (by omega)
          have e6 : Same H2 (upd H5 A (.lst (adr aw ++ [V.ref p]))) := (e3.trans e5).set nA
          have dA6 : (upd H5 A (.lst (adr aw ++ [V.ref p]))) A = some (.lst (adr (aw ++ [(p, x)]))) := by rw [upd_same, adr_snoc]
          have pA : p ≠ A := ne_of tp5 (e5 _ _ dA) (fun z => by cases z)
          have tp6 : Tup (upd H5 A (.lst (adr aw ++ [V.ref p]))) p x.row := by
            show upd H5 A _ p = _
            rw [upd_ne pA]
            exact tp5
          have dD6 : (upd H5 A (.lst (adr aw ++ [V.ref p]))) Dd = some (.dT kvs) := by
            rw [upd_ne nDA]
            exact e5 _ _ dD
          have st6 : Stand (upd H5 A (.lst (adr aw ++ [V.ref p]))) (aw ++ [(p, x)]) := Stand.snoc (fun a ha => by
            have t := (st a ha).same e5
            show upd H5 A _ a.1 = _
            rw [upd_ne (ne_of t (e5 _ _ dA) (fun z => by cases z))]
            exact t) tp6
          change tSeq _ _ _ _ (upd H5 A (.lst (adr aw ++ [V.ref p])))
          generalize upd H5 A (.lst (adr aw ++ [V.ref p])) = H6 at e6 dA6 tp6 dD6 st6 ⊢
          refine ⟨_, rfl, _, rfl, p, _, 0, .int x.st, rfl, rfl, tp6.t, rfl, _, rfl, p, _, 1, .int x.ca, rfl, rfl, tp6.t, rfl, (by show 2 ≤ sizeLine; decide), fun b hb => ⟨Dd, _, rfl, DPut.t (k := pk x) (Same.upd hb _ _ dD6) upd_same (lt_line (by omega)), _, _, aw ++ [(p, x)], _, rfl, (e6.new hb).set hD2, ?_, upd_same, ?_, ?_, ?_, ?_⟩⟩
          · rw [upd_ne nDA.symm]
            exact Same.upd hb _ _ dA6
          · intro a ha
            have t := (st6 a ha).same (Same.upd (o := .tup [.int x.st, .int x.ca]) hb)
            show upd _ Dd _ a.1 = _
            rw [upd_ne (ne_of t (Same.upd hb _ _ dD6) (fun z => by cases z))]
            exact t
          · rw [wys_snoc]
            exact po.put _ _
          · have := length_putK kvs (pk x) (V.bl true)
            omega
          · rw [wys_snoc]
            exact sc.go h6 h4 hy ew hkey
    · rintro σ H3 ⟨pl, wv, aw, kvs, rfl, e3, dA, dD, st, po, kl, sc⟩
      have en : (((V.str l :: r.map V.str).length : Int) - 1).toNat = r.length := by
        rw [List.length_cons, List.length_map]
        omega
      rw [en] at sc
      have sd := sc.done
      refine ⟨_, rfl, Dd, kvs, rfl, dD, _, rfl, _, rfl, _, _, rfl, rfl, .inl ⟨by omega, by omega⟩, _, _, rfl, rfl, _, rfl, ?_⟩
      rw [po.count ⟨by omega, h6⟩ ⟨by omega, h4⟩ sc.ok]
      cases cv : covers s c (wys aw) with
      | false =>
        refine iteT ⟨_, rfl, L, _, rfl, .inl (.of (e3 _ _ dL)), ?_⟩
        have := kE _ (bookOf_gap el es sd cv)
        rw [List.length_cons, List.length_map]
        exact bad_reads (this.same (s3.trans e3))
      | true =>
        obtain ⟨ok, asc, _, _⟩ := scan_ok h6 h4 sd
        have BO : BookOk s c (wys aw) := ⟨h1, h6, h1', h4, ok, asc, cv⟩
        refine iteF ⟨_, rfl, _, rfl, _, rfl, fun b dx hb hdx ne => ?_⟩
        have s4 : Same H3 (upd (upd H3 dx (.own b)) b (.ins C dx [])) := fun a o e => by
          rw [upd_ne (ne_of_none e hb), upd_ne (ne_of_none e hdx)]
          exact e
        refine ⟨b, dx, s, c, A, aw, rfl, upd_same, BO, s4 _ _ dA, st.same s4, fun H' q aw' sm BA ew => ⟨rfl, kQ s c (wys aw) (bookOf_ok el es sd cv) BO H' b q aw' (fun a o e => ?_) BA ew⟩⟩
        have e4 := (s3.trans e3) a o e
        exact sm a o (s4 _ _ e4) (ne_of_none e4 hb)
end
end K3
/-! history_text, _read_entry, read_history -/
namespace K3
open PySem PySem.Spec PyProof.Rows L2
abbrev AE := Addr × Ent
abbrev adrE (ae : List AE) : List V := refs (ae.map (·.1))
abbrev ents (ae : List AE) : List Ent := ae.map (·.2)
def StandE (H : Hp) (ae : List AE) : Prop := ∀ p ∈ ae, Tup H p.1 p.2.row
def StandL (H : Hp) (ae : List AE) : Prop := ∀ p ∈ ae, H p.1 = some (.lst (p.2.row.map V.int))
theorem StandE.same {H H' : Hp} {ae : List AE} (s : Same H H') (h : StandE H ae) : StandE H' ae := fun p hp => (h p hp).same s
theorem StandL.same {H H' : Hp} {ae : List AE} (s : Same H H') (h : StandL H ae) : StandL H' ae := fun p hp => s _ _ (h p hp)
theorem adrE_at {ae : List AE} {i : Nat} {x : V} (h : (adrE ae)[i]? = some x) : ∃ p, ae[i]? = some p ∧ x = V.ref p.1 := by
  obtain ⟨a, e, rfl⟩ := of_refs h
  rw [List.getElem?_map] at e
  cases q : ae[i]? with
  | none => rw [q] at e; cases e
  | some p =>
    rw [q] at e
    exact ⟨p, rfl, congrArg V.ref (Option.some.inj e).symm⟩
theorem adrE_len (ae : List AE) : (adrE ae).length = ae.length := by rw [adrE, refs, List.length_map, List.length_map]
theorem ents_len (ae : List AE) : (ents ae).length = ae.length := List.length_map ..
theorem adrE_snoc (ae : List AE) (p : AE) : adrE (ae ++ [p]) = adrE ae ++ [V.ref p.1] := by
  unfold adrE refs
  rw [List.map_append, List.map_append]
  rfl
theorem ents_snoc (ae : List AE) (p : AE) : ents (ae ++ [p]) = ents ae ++ [p.2] := by
  unfold ents
  rw [List.map_append]
  rfl
theorem StandE.snoc {H : Hp} {ae : List AE} {p : AE} (h : StandE H ae) (t : Tup H p.1 p.2.row) : StandE H (ae ++ [p]) := fun q hq => by
  rcases List.mem_append.mp hq with hq | hq
  · exact h q hq
  · rw [List.mem_singleton] at hq
    subst hq
    exact t
theorem rows_ofE {H : Hp} : ∀ {ae : List AE}, StandE H ae → Rows H (ae.map (·.1)) ((ents ae).map Ent.row)
  | [], _ => .nil
  | p :: ae, h => .cons (h p (List.mem_cons_self ..)) (rows_ofE fun q hq => h q (List.mem_cons_of_mem _ hq))
def Ent.fig (e : Ent) : Prop := (0 ≤ e.ha ∧ e.ha ≤ 9) ∧ (0 ≤ e.ca ∧ e.ca ≤ 9) ∧ (0 ≤ e.an ∧ e.an ≤ 9)
theorem Ent.ok.fig {c : Int} {e : Ent} (h : e.ok c) (hc : c ≤ 4) : e.fig := by
  obtain ⟨h1, h2, h3⟩ := h
  exact ⟨h1, by omega, by omega⟩
theorem t_colon : (Str.ofString ":") = S [58] := by decide +kernel
theorem t_gt : (Str.ofString ">") = S [62] := by decide +kernel
theorem hist_wt : ∀ es : List Ent, wt (es.map Ent.txt) = 6 * es.length
  | [] => rfl
  | v :: r => by
    rw [List.map_cons, wt_cons, hist_wt r, show v.txt.length = 5 from SX.S_len _, List.length_cons]
    omega
/-! ### history_text -/
def spHistT : Sp := fun vs H Q _ => ∃ (a : Addr) (ae : List AE), vs = [.ref a] ∧ ae.length ≤ 401 ∧ (∀ e ∈ ents ae, e.fig) ∧ ((H a = some (.lst (adrE ae)) ∧ StandL H ae) ∨ (H a = some (.tup (adrE ae)) ∧ StandE H ae)) ∧ ∀ H', Same H H' → Q (.str (histT (ents ae))) H'
def tHistE : TE := fun σ H Q => tJs [tFmt (tVar 1), tC (V.str (Str.ofString ":")), tFmt (tVar 2), tC (V.str (Str.ofString ">")), tFmt (tVar 3)] Str.empty σ H fun out H1 => Q (V.str out) H1
theorem sc_histT : FnScope ["history", "hand", "call", "answer"] ["history"] (defScope (top 24)) := ⟨rfl, rfl, rfl, by decide +kernel, rfl, by decide +kernel, by decide +kernel⟩
section
variable {P : Program} {w : World} {K : PySem.W.Frag} {mg : Str → Option Value} {base : Heap}
theorem got_histT (T : Txt K mg) (D : DefAt K mg "history_text" (top 24)) : Got P w K mg base CX0 1 "history_text" ["history"] spHistT := by
  refine got0 D sc_histT (fun _ _ _ _ _ _ us hl => match us, hl with | [_], _ => rfl) (fun vs H Q E h => ?_) (fun f cdv A outer s0 H vs Q E hr h => ?_)
  · obtain ⟨a, ae, rfl, _⟩ := h
    rfl
  · obtain ⟨a, ae, rfl, hl, hf, hs, k⟩ := h
    have fin : ∀ {D : Addr} {H2 : Hp}, Same H H2 → H2 D = some (.lst (((ents ae).map Ent.txt).map V.str)) → ∃ a p, ∃ ys : List Str, V.str (Str.ofString " ") = .str a ∧ ([V.ref D] : List V) = [.ref p] ∧ (SqL K H2 p (ys.map V.str) ∨ SqT K H2 p (ys.map V.str)) ∧ (ys.map (·.length)).sum + ys.length * a.length ≤ 16777216 ∧ Q (.str (Txt.join a ys)) H2 := fun {D H2} e d => by
      refine ⟨_, D, _, rfl, rfl, .inl (.of d), ?_, ?_⟩
      · rw [t_blank]
        exact join_fit 32 (by rw [hist_wt, ents_len]; omega)
      · rw [t_blank]
        exact k H2 e
    have turn : ∀ {i : Nat} {p : AE} {H2 : Hp} {D : Addr}, ae[i]? = some p → Same H H2 → H D = none → H2 D = some (.lst ((((ents ae).take i).map Ent.txt).map V.str)) → ∃ acc, H2 D = some (.lst acc) ∧ acc.length < sizeLine ∧
        (Same H (upd H2 D (.lst (acc ++ [V.str p.2.txt]))) ∧ upd H2 D (.lst (acc ++ [V.str p.2.txt])) D = some (.lst ((((ents ae).take (i + 1)).map Ent.txt).map V.str))) := fun {i p H2 D} hp e hD d => by
      refine ⟨_, d, ?_, e.set hD, ?_⟩
      · have := lt_of_get hp
        rw [List.length_map, List.length_map, List.length_take]
        exact small1000 (by omega)
      · rw [upd_same, take_more (show (ents ae)[i]? = some p.2 by rw [List.getElem?_map, hp]; rfl), List.map_append, List.map_append]
        rfl
    have figs : ∀ {i : Nat} {p : AE}, ae[i]? = some p → p.2.fig := fun {i p} hp => hf _ (List.mem_map.mpr ⟨p, List.mem_of_getElem? hp, rfl⟩)
    rcases hs with ⟨ha, hs⟩ | ⟨ha, hs⟩
    · refine ⟨_, pss_one (ps_ret (pe_join pe_str (pe_lc (own := [("hand", 1), ("call", 2), ("answer", 3)]) (g := gUnl K 3 (gCons (gName 1) (gCons (gName 2) (gCons (gName 3) gNil)))) (tt := tYes) (te := tHistE) rfl sc_histT.nd (pi_list (pv 0))
          (blkOk_by (own := [("hand", 1), ("call", 2), ("answer", 3)]) (N := ["history", "hand", "call", "answer"]) (sc := defScope (top 24)) (by decide +kernel)) (fun _ _ _ _ _ => pg_threeL (i := 1) (j := 2) (l := 3) rfl sc_histT.nd rfl rfl rfl rfl rfl rfl) (fun _ _ _ _ _ => pts_nil)
          (fun _ _ _ _ _ => pe_joined (.cons (pe_fmt (pv 1)) (.cons pe_str (.cons (pe_fmt (pv 2)) (.cons pe_str (.cons (pe_fmt (pv 3)) .nil))))))))), ?_⟩
      refine ⟨⟨_, rfl⟩, _, rfl, a, rfl, ⟨_, .of ha⟩, fun D hD => lc_list (K := K) (a := a) (xs := adrE ae) (fun i H2 => Same H H2 ∧ H2 D = some (.lst ((((ents ae).take i).map Ent.txt).map V.str))) ⟨Same.upd hD, upd_same⟩ (fun i H2 _ h2 => .of (h2.1 _ _ ha)) ?_ ?_⟩
      · rintro i x H2 hi ⟨e2, d2⟩
        obtain ⟨p, hp, rfl⟩ := adrE_at hi
        obtain ⟨g1, g2, g3⟩ := figs hp
        refine ⟨p.1, _, rfl, .of (e2 _ _ (hs p (List.mem_of_getElem? hp))), rfl, _, _, rfl, _, _, rfl, _, _, rfl, rfl, rfl, ?_⟩
        dsimp only [tYes]
        refine iteT ⟨_, rfl, js_fig (a := []) g1 (Nat.le_of_ble_eq_true rfl) (js_str t_colon (Nat.le_of_ble_eq_true rfl) ⟨_, rfl, js_fig g2 (Nat.le_of_ble_eq_true rfl) (js_str t_gt (Nat.le_of_ble_eq_true rfl) ⟨_, rfl, js_fig g3 (Nat.le_of_ble_eq_true rfl) ?_⟩)⟩)⟩
        exact turn hp e2 hD d2
      · rintro H2 ⟨e2, d2⟩
        rw [adrE_len, ← ents_len ae, List.take_length] at d2
        exact fin e2 d2
    · refine ⟨_, pss_one (ps_ret (pe_join pe_str (pe_lc (own := [("hand", 1), ("call", 2), ("answer", 3)]) (g := gTup K 3 (gCons (gName 1) (gCons (gName 2) (gCons (gName 3) gNil)))) (tt := tYes) (te := tHistE) rfl sc_histT.nd (pi_tup (pv 0))
          (blkOk_by (own := [("hand", 1), ("call", 2), ("answer", 3)]) (N := ["history", "hand", "call", "answer"]) (sc := defScope (top 24)) (by decide +kernel)) (fun _ _ _ _ _ => pg_three (i := 1) (j := 2) (l := 3) rfl sc_histT.nd rfl rfl rfl rfl rfl rfl) (fun _ _ _ _ _ => pts_nil)
          (fun _ _ _ _ _ => pe_joined (.cons (pe_fmt (pv 1)) (.cons pe_str (.cons (pe_fmt (pv 2)) (.cons pe_str (.cons (pe_fmt (pv 3)) .nil))))))))), ?_⟩
      refine ⟨⟨_, rfl⟩, _, rfl, a, rfl, ⟨_, .of ha⟩, fun D hD => lc_tup (K := K) (a := a) (xs := adrE ae) (fun i H2 => Same H H2 ∧ H2 D = some (.lst ((((ents ae).take i).map Ent.txt).map V.str))) ⟨Same.upd hD, upd_same⟩ (fun i H2 _ h2 => .of (h2.1 _ _ ha)) ?_ ?_⟩
      · rintro i x H2 hi ⟨e2, d2⟩
        obtain ⟨p, hp, rfl⟩ := adrE_at hi
        obtain ⟨g1, g2, g3⟩ := figs hp
        refine ⟨p.1, _, rfl, ((hs p (List.mem_of_getElem? hp)).same e2).t, rfl, _, _, rfl, _, _, rfl, _, _, rfl, rfl, rfl, ?_⟩
        dsimp only [tYes]
        refine iteT ⟨_, rfl, js_fig (a := []) g1 (Nat.le_of_ble_eq_true rfl) (js_str t_colon (Nat.le_of_ble_eq_true rfl) ⟨_, rfl, js_fig g2 (Nat.le_of_ble_eq_true rfl) (js_str t_gt (Nat.le_of_ble_eq_true rfl) ⟨_, rfl, js_fig g3 (Nat.le_of_ble_eq_true rfl) ?_⟩)⟩)⟩
        exact turn hp e2 hD d2
      · rintro H2 ⟨e2, d2⟩
        rw [adrE_len, ← ents_len ae, List.take_length] at d2
        exact fin e2 d2
end
/-! ### _read_entry -/
def spEntry (C : Addr) : Sp := fun vs H Q _ => ∃ (p : Addr) (s c : Int) (q : Addr) (aw : List AW) (z : Str), vs = [.ref p, .str z] ∧ BookAt C H p s c q aw ∧ z.length ≤ 1000000 ∧ (entOf z c = none → Q .non H) ∧ ∀ e, entOf z c = some e → ∀ t H', Same H H' → Tup H' t e.row → Q (.ref t) H'
theorem sc_entry : FnScope ["book", "word", "hand", "call", "answer"] ["book", "word"] (defScope (top 25)) := ⟨rfl, rfl, rfl, by decide +kernel, rfl, by decide +kernel, by decide +kernel⟩
theorem one_ne {x n : Nat} (h : x ≠ n) : decide ((V.str ⟨#[x]⟩ : V) = V.str (S [n])) = false := decide_eq_false fun q => h (by
  injection q with q
  have := congrArg tl q
  injection this)
section
variable {P : Program} {w : World} {K : PySem.W.Frag} {mg : Str → Option Value} {base : Heap}
theorem got_entry {C fI fE : Addr} (T : Txt K mg) (BC : BookC K mg C fI fE) (D : DefAt K mg "_read_entry" (top 25)) (G : Got P w K mg base CX0 1 "small_number" ["word", "low", "high"] spSmall) : Got P w K mg base CX0 2 "_read_entry" ["book", "word"] (spEntry C) := by
  obtain ⟨f1, fd1, F1, m1, k1, b1⟩ := G
  refine got0 D sc_entry (fun _ _ _ _ _ _ us hl => match us, hl with | [_, _], _ => rfl) (fun vs H Q E h => ?_) (fun f cdv A outer s0 H vs Q E hr h => ?_)
  · obtain ⟨p, s, c, q, aw, z, rfl, _⟩ := h
    rfl
  · obtain ⟨p, s, c, q, aw, z, rfl, ⟨⟨dx, hp⟩, _, _⟩, hz, kN, kE⟩ := h
    have hzs : z.length ≤ sizeLine := Nat.le_trans hz (by decide)
    refine ⟨_, pss_cons (ps_if (PW.pt (pw_or (pt_cmpR op_ne (pe_lenS T.len (pv 1)) pe_int (nomark _)) (pw_or (pt_cmpR op_ne (pe_ix ix_str (pv 1) pe_int (fun _ _ => rfl)) pe_str (nomark _)) (pw_or1 (pt_cmpR op_ne (pe_ix ix_str (pv 1) pe_int (fun _ _ => rfl)) pe_str (nomark _)))))) (pss_one (ps_ret pe_non)) pss_nil)
      (pss_cons (ps_set (i := 2) sc_entry.nd rfl (.inl rfl) (pe_call F1 hr rfl m1 k1 b1 .nil pass0 (pa_cons (pe_ix ix_str (pv 1) pe_int (fun _ _ => rfl)) (pa_cons pe_int (pa_cons (pe_num T.mHand) pa_nil)))))
      (pss_cons (ps_set (i := 3) sc_entry.nd rfl (.inl rfl) (pe_call F1 hr rfl m1 k1 b1 .nil pass0 (pa_cons (pe_ix ix_str (pv 1) pe_int (fun _ _ => rfl)) (pa_cons pe_int (pa_cons (pe_op op_sub (pe_fld (pv 0) rfl) pe_int) pa_nil)))))
      (pss_cons (ps_set (i := 4) sc_entry.nd rfl (.inl rfl) (pe_call F1 hr rfl m1 k1 b1 .nil pass0 (pa_cons (pe_ix ix_str (pv 1) pe_int (fun _ _ => rfl)) (pa_cons pe_int (pa_cons pe_int pa_nil)))))
      (pss_cons (ps_if (PW.pt (pw_or (pt_cmp (pc_isN (pv 2)) rfl) (pw_or (pt_cmp (pc_isN (pv 3)) rfl) (pw_or1 (pt_cmp (pc_isN (pv 4)) rfl))))) (pss_one (ps_ret pe_non)) pss_nil)
      (pss_one (ps_ret (pe_tup (pa_cons (pv 2) (pa_cons (pv 3) (pa_cons (pv 4) pa_nil)))))))))), ?_⟩
    refine ⟨_, rfl, z, rfl, hzs, rfl, _, rfl, ?_⟩
    by_cases h5 : z.length = 5
    · obtain ⟨a, x, b, y, d, et⟩ : ∃ a x b y d, tl z = [a, x, b, y, d] := by
        have e := h5
        rw [len_tl] at e
        match q : tl z, e with
        | [a, x, b, y, d], _ => exact ⟨a, x, b, y, d, rfl⟩
      have ee : entOf z c = if x = 58 ∧ y = 62 then (match smallN (S [a]) 0 9, smallN (S [b]) 0 (c - 1), smallN (S [d]) 0 2 with
          | some h, some k, some n => some ⟨h, k, n⟩
          | _, _, _ => none) else none := by
        unfold entOf
        rw [et] <;> rfl
      have at' : ∀ {j : Nat} {u : Nat}, ([a, x, b, y, d] : List Nat)[j]? = some u → atI z.cps.toList (j : Int) = some u := fun {j u} h => atI_nat (by rw [show z.cps.toList = tl z from rfl, et]; exact h)
      refine iteNS (by rw [h5]; rfl) ?_
      refine ⟨_, rfl, z, 1, x, rfl, rfl, hzs, at' (j := 1) rfl, rfl, _, rfl, ?_⟩
      rw [t_colon]
      by_cases hx : x = 58
      · refine iteNS (by rw [hx]) ?_
        refine ⟨_, rfl, z, 3, y, rfl, rfl, hzs, at' (j := 3) rfl, rfl, _, rfl, ?_⟩
        rw [t_gt]
        by_cases hy : y = 62
        · refine iteNS (by rw [hy]) ?_
          rw [if_pos ⟨hx, hy⟩] at ee
          have l1 : ∀ u : Nat, (S [u]).length ≤ sizeLine := fun u => by rw [show (S [u]).length = 1 from SX.S_len _]; decide
          refine ⟨_, rfl, z, 0, a, rfl, rfl, hzs, at' (j := 0) rfl, S [a], 0, 9, rfl, l1 a, ?_⟩
          refine ⟨_, rfl, z, 2, b, rfl, rfl, hzs, at' (j := 2) rfl, _, rfl, p, C, dx, _, _, rfl, hp, BC.cl, BC.nC, flds_c _ _ _, _, _, rfl, rfl, S [b], 0, c - 1, rfl, l1 b, ?_⟩
          refine ⟨_, rfl, z, 4, d, rfl, rfl, hzs, at' (j := 4) rfl, S [d], 0, 2, rfl, l1 d, ?_⟩
          generalize e0 : smallN (S [a]) 0 9 = o0 at ee
          generalize e1 : smallN (S [b]) 0 (c - 1) = o1 at ee
          generalize e2 : smallN (S [d]) 0 2 = o2 at ee
          refine ⟨_, rfl, _, rfl, ?_⟩
          rw [optV_non]
          match o0, o1, o2, ee with
          | none, _, _, ee => exact iteT (kN ee)
          | some _, none, _, ee => exact iteF ⟨_, rfl, _, rfl, ifT rfl (kN ee)⟩
          | some _, some _, none, ee => exact iteF ⟨_, rfl, _, rfl, ifF rfl ⟨_, rfl, _, rfl, ifT rfl (kN ee)⟩⟩
          | some i, some j, some k, ee => exact iteF ⟨_, rfl, _, rfl, ifF rfl ⟨_, rfl, _, rfl, ifF rfl ⟨_, rfl, _, rfl, _, rfl, (by show 3 ≤ sizeLine; decide), fun t ht => kE ⟨i, j, k⟩ ee t _ (Same.upd ht) upd_same⟩⟩⟩
        · rw [if_neg (fun q => hy q.2)] at ee
          rw [one_ne hy]
          exact iteT (kN ee)
      · rw [if_neg (fun q => hx q.1)] at ee
        rw [one_ne hx]
        exact iteT (kN ee)
    · have ee : entOf z c = none := by
        unfold entOf
        split
        · rename_i q
          exact absurd (by rw [len_tl, q]; rfl) h5
        · rfl
      rw [decide_eq_false (fun q => h5 (by injection q with q; omega))]
      exact iteT (kN ee)
end
/-! ### read_history -/
def spRHist (K : PySem.W.Frag) (Cb C : Addr) : Sp := fun vs H Q E => ∃ (p : Addr) (s c : Int) (q : Addr) (aw : List AW) (x : V), vs = [.ref p, x] ∧ BookAt C H p s c q aw ∧ c ≤ 4 ∧
  ((∃ z : Str, x = .str z ∧ z.length ≤ 1000000 ∧ (∀ k : Nat, histOf c z = .error k → Raised Cb (k : Int) H E) ∧ ∀ es, histOf c z = .ok es → ∀ (H' : Hp) (t : Addr) (ae : List AE), Same H H' → H' t = some (.tup (adrE ae)) → StandE H' ae → ents ae = es → Q (.ref t) H') ∨
   (∃ t, TyX K H x t ∧ PySem.W.kitOne K t (.type "str") = some false ∧ Raised Cb 0 H E))
theorem sc_rhist : FnScope ["book", "text", "words", "history", "place", "word", "entry"] ["book", "text"] (defScope (top 26)) := ⟨rfl, rfl, rfl, by decide +kernel, rfl, by decide +kernel, by decide +kernel⟩
theorem t_empty : (Str.ofString "") = Str.empty := by decide +kernel
structure ScanE (c : Int) (r : List Str) (i : Nat) (es : List Ent) : Prop where
  len : es.length = i
  eq : scanE c 0 r = glueE es (scanE c i (r.drop i))
theorem ScanE.nil {c : Int} {r : List Str} : ScanE c r 0 [] := ⟨rfl, by rw [glueE_nil]; rfl⟩
theorem ScanE.bad {c : Int} {r : List Str} {i : Nat} {es : List Ent} (h : ScanE c r i es) {l : Str} (hl : r[i]? = some l) (e : entOf l c = none) : scanE c 0 r = .error i := by
  rw [h.eq, drop_more hl, scanE_none e]
  rfl
theorem ScanE.go {c : Int} {r : List Str} {i : Nat} {es : List Ent} (h : ScanE c r i es) {l : Str} {x : Ent} (hl : r[i]? = some l) (e : entOf l c = some x) : ScanE c r (i + 1) (es ++ [x]) := by
  refine ⟨by rw [List.length_append, h.len]; rfl, ?_⟩
  rw [h.eq, drop_more hl, scanE_go e, glueE_glue]
theorem ScanE.done {c : Int} {r : List Str} {es : List Ent} (h : ScanE c r r.length es) : scanE c 0 r = .ok es := by
  rw [h.eq, List.drop_length]
  show Except.ok (es ++ []) = _
  rw [List.append_nil]
theorem hist_empty {c : Int} : histOf c Str.empty = .ok [] := by
  unfold histOf
  rw [if_pos rfl]
theorem hist_many {c : Int} {z : Str} (h : z ≠ Str.empty) (n : (parts z 32).length > 400) : histOf c z = .error 400 := by
  unfold histOf
  rw [if_neg h, if_pos n]
theorem hist_scan {c : Int} {z : Str} (h : z ≠ Str.empty) (n : ¬ (parts z 32).length > 400) : histOf c z = scanE c 0 (parts z 32) := by
  unfold histOf
  rw [if_neg h, if_neg n]
section
variable {P : Program} {w : World} {K : PySem.W.Frag} {mg : Str → Option Value} {base : Heap}
theorem got_rhist {Cb fB C fI fE : Addr} (T : Txt K mg) (B : Bad K mg Cb fB) (BC : BookC K mg C fI fE) (D : DefAt K mg "read_history" (top 26)) (G : Got P w K mg base CX0 2 "_read_entry" ["book", "word"] (spEntry C)) : Got P w K mg base (L2.CX P w) 4 "read_history" ["book", "text"] (spRHist K Cb C) := by
  obtain ⟨f1, fd1, F1, m1, k1, b1⟩ := G
  refine got_of D sc_rhist (fun _ _ _ _ _ _ us hl => match us, hl with | [_, _], _ => rfl) (fun vs H Q E h => ?_) (fun f cdv A0 outer s0 H vs Q E hr h => ?_)
  · obtain ⟨p, s, c, q, aw, x, rfl, _⟩ := h
    rfl
  · obtain ⟨p, s, c, q, aw, x, rfl, BA, c4, h⟩ := h
    have hr2 : Room 2 _ := hr.mono (by decide)
    refine ⟨_, pss_cons (ps_if (pt_not (pt_val (pe_isin T.isin (pv 1) (pe_ty T.str bt_str)))) (pss_one (ps_bad (k := 1) B hr rfl (takes_of rfl rfl rfl rfl) pe_int)) pss_nil)
      (pss_cons (ps_if (pt_cmpR op_eq (pv 1) pe_str (nomark _)) (pss_one (ps_ret (pe_tup pa_nil))) pss_nil)
      (pss_cons (ps_set (i := 2) sc_rhist.nd rfl (.inl rfl) (pe_split (pv 1) pe_str))
      (pss_cons (ps_if (pt_cmpR op_gt (pe_len T.len (pv 2)) (pe_num T.mEntries) (nomark _)) (pss_one (ps_bad (k := 1) B hr rfl (takes_of rfl rfl rfl rfl) (pe_num T.mEntries))) pss_nil)
      (pss_cons (ps_set (i := 3) sc_rhist.nd rfl (.inl rfl) (pe_lst pa_nil))
      (pss_cons (ps_for (passes_of rfl) rfl (pi_enum rfl T.enum (pa_cons (pv 2) pa_nil)) (pg_tup rfl (pgs_cons (pg_name (i := 4) sc_rhist.nd rfl (.inl rfl)) (pgs_cons (pg_name (i := 5) sc_rhist.nd rfl (.inl rfl)) pgs_nil)))
        (pss_cons (ps_set (i := 6) sc_rhist.nd rfl (.inl rfl) (pe_call F1 hr2 rfl m1 k1 b1 .nil pass0 (pa_cons (pv 0) (pa_cons (pv 5) pa_nil))))
        (pss_cons (ps_if (pt_cmp (pc_isN (pv 6)) rfl) (pss_one (ps_bad (k := 1) B hr rfl (takes_of rfl rfl rfl rfl) (pv 4))) pss_nil)
        (pss_one (ps_expr (pe_bm PySem.F.plainAttrs_list PySem.F.slot_list_append PySem.F.type_list_append mt_append (pv 3) (pa_cons (pv 6) pa_nil)))))))
      (pss_one (ps_ret (pe_callTy call_tuple_of rfl T.tuple bt_tuple (pa_cons (pv 3) pa_nil))))))))), ?_⟩
    rcases h with ⟨z, rfl, hz, kE, kQ⟩ | ⟨t, ty, kt, kR⟩
    case inr => exact ⟨_, rfl, _, _, _, _, false, rfl, .ty "str", ty, kt, false, rfl, iteT (bad_reads kR)⟩
    refine ⟨_, rfl, _, _, _, _, true, rfl, .ty "str", .base (.str z), kit_ty (by decide +kernel), true, rfl, iteF ?_⟩
    refine ⟨_, rfl, rfl, _, rfl, ?_⟩
    rw [t_empty]
    by_cases h0 : z = Str.empty
    · refine ifT (decide_eq_true (by rw [h0])) ⟨(by show 0 ≤ sizeLine; decide), fun t ht => ?_⟩
      exact kQ [] (by rw [h0]; exact hist_empty) _ t [] (Same.upd ht) upd_same (fun a ha => by cases ha) rfl
    · refine ifF (decide_eq_false (fun e => h0 (by injection e))) ?_
      refine ⟨_, rfl, ⟨_, rfl⟩, z, _, rfl, rfl, (by decide +kernel), small_line hz, fun L hL => ?_⟩
      have s1 : Same H (upd H L (.lst ((Txt.split z (Str.ofString " ")).map V.str))) := Same.upd hL
      have dL : upd H L (.lst ((Txt.split z (Str.ofString " ")).map V.str)) L = some (.lst ((parts z 32).map V.str)) := by
        rw [upd_same, t_blank]
        rfl
      generalize upd H L (.lst ((Txt.split z (Str.ofString " ")).map V.str)) = H1 at s1 dL ⊢
      refine ⟨_, rfl, L, _, rfl, .inl (.of dL), _, _, rfl, rfl, _, rfl, ?_⟩
      rw [List.length_map]
      by_cases hn : (parts z 32).length > 400
      · refine ifT (decide_eq_true (by omega)) (bad_reads ((kE 400 (hist_many h0 hn)).same s1))
      · refine ifF (decide_eq_false (by omega)) ?_
        have eh := hist_scan (c := c) h0 hn
        refine ⟨(by show 0 ≤ sizeLine; decide), fun A hA => ?_⟩
        refine ⟨_, rfl, L, _, rfl, .of (Same.upd hA _ _ dL), for_it walk_enum (fun i σ H3 => ∃ (pl wv en : Option V) (ae : List AE), σ = [some (.ref p), some (.str z), some (.ref L), some (.ref A), pl, wv, en] ∧ Same H1 H3 ∧ H3 A = some (.lst (adrE ae)) ∧ StandE H3 ae ∧ ScanE c (parts z 32) i (ents ae))
          ⟨none, none, none, [], rfl, Same.upd hA, upd_same, fun a ha => by (cases ha), ScanE.nil⟩ (fun i σ H3 _ ⟨_, _, _, _, _, e3, _⟩ => .of (e3 _ _ dL)) ?_ ?_⟩
        · rintro i x σ H3 H4 hi ⟨pl, wv, en, ae, rfl, e3, dA, st, sc⟩ ⟨T0, x0, y0, rfl, hT, rfl, ex, ey⟩
          cases ex
          obtain ⟨y, hy, rfl⟩ : ∃ y, (parts z 32)[i]? = some y ∧ y0 = V.str y := by
            dsimp only at ey
            rw [List.getElem?_map] at ey
            cases q : (parts z 32)[i]? with
            | none => rw [q] at ey; cases ey
            | some y => rw [q] at ey; exact ⟨y, rfl, (Option.some.inj ey).symm⟩
          have ly : y.length ≤ 1000000 := parts_small (by decide : 32 < 256) hz (List.mem_of_getElem? hy)
          have e4 : Same H3 (upd H3 T0 (.tup [.int (i : Nat), .str y])) := Same.upd hT
          refine ⟨T0, _, rfl, .of upd_same, rfl, _, _, rfl, _, _, rfl, rfl, ?_⟩
          change tSeq _ _ _ _ (upd H3 T0 (.tup [.int (i : Nat), .str y]))
          generalize upd H3 T0 (.tup [.int (i : Nat), .str y]) = H4 at e4 ⊢
          have e14 := e3.trans e4
          refine ⟨_, rfl, _, rfl, p, s, c, q, aw, y, rfl, BA.same (s1.trans e14), ly, fun ee => ?_, fun e ee t H5 e5 tp => ?_⟩
          · refine ⟨_, rfl, _, rfl, ifT (decide_eq_true rfl) ⟨_, rfl, ?_⟩⟩
            have := kE i (by rw [eh]; exact sc.bad hy ee)
            exact bad_reads (this.same (s1.trans e14))
          · refine ⟨_, rfl, _, rfl, ifF (decide_eq_false (fun q => by cases q)) ?_⟩
            have dA5 := e5 _ _ (e4 _ _ dA)
            refine ⟨_, rfl, .inl ⟨rfl, _, .of dA5⟩, ?_⟩
            have hlt := lt_of_get hy
            refine ⟨_, rfl, A, _, _, rfl, rfl, dA5, ?_, _, _, _, ae ++ [(t, e)], rfl, (e14.trans e5).set hA, ?_, ?_, ?_⟩
            · have := sc.len
              rw [ents_len] at this
              rw [adrE_len]
              exact small1000 (by omega)
            · rw [upd_same, adrE_snoc]
            · intro a ha
              have st5 : StandE H5 (ae ++ [(t, e)]) := ((st.same e4).same e5).snoc tp
              have t1 := st5 a ha
              show upd H5 A _ a.1 = _
              rw [upd_ne (ne_of t1 dA5 (fun z => by cases z))]
              exact t1
            · rw [ents_snoc]
              exact sc.go hy ee
        · rintro σ H3 ⟨pl, wv, en, ae, rfl, e3, dA, st, sc⟩
          rw [List.length_map] at sc
          refine ⟨_, rfl, A, _, rfl, .inl ⟨.of dA, fun l hl => kQ (ents ae) (by rw [eh]; exact sc.done) _ l ae ((s1.trans e3).new hl) upd_same (st.same (Same.upd hl)) rfl⟩⟩
end
end K3
/-! the law's draws: _law_mix, _law_hand, _law_draw -/
namespace K3
open PySem PySem.Spec PyProof.Rows L2
theorem md64 {x M : Int} (h : 0 < M ∧ M < 2147483648) : -(2 ^ 64) < x % M ∧ x % M < 2 ^ 64 := by
  have h1 := Int.emod_nonneg x (show M ≠ 0 by omega)
  have h2 := Int.emod_lt_of_pos x h.1
  constructor <;> omega
def spMix : Sp := fun vs H Q _ => ∃ n t : Int, vs = [.int n, .int t] ∧ ∀ r : Int, 0 ≤ r → Q (.int r) H
theorem sc_mix : FnScope ["_law_number", "_law_turn", "_law_once", "_law_twice"] ["_law_number", "_law_turn"] (defScope (top 28)) := ⟨rfl, rfl, rfl, by decide +kernel, rfl, by decide +kernel, by decide +kernel⟩
section
variable {P : Program} {w : World} {K : PySem.W.Frag} {mg : Str → Option Value} {base : Heap}
theorem got_mix (T : Txt K mg) (D : DefAt K mg "_law_mix" (top 28)) : Got P w K mg base CX0 1 "_law_mix" ["_law_number", "_law_turn"] spMix := by
  refine got0 D sc_mix (fun _ _ _ _ _ _ us hl => match us, hl with | [_, _], _ => rfl) (fun vs H Q E h => ?_) (fun f cdv A outer s0 H vs Q E hr h => ?_)
  · obtain ⟨n, t, rfl, _⟩ := h
    rfl
  · obtain ⟨n, t, rfl, k⟩ := h
    refine ⟨_, pss_cons (ps_set (i := 2) sc_mix.nd rfl (.inl rfl) (pe_op op_mod (pe_callTy call_int1 rfl T.int bt_int (pa_cons (pe_op op_add (pe_op op_add (pe_op op_mul (pv 0) pe_int) (pe_op op_mul (pv 1) pe_int)) pe_int) pa_nil)) pe_int))
      (pss_cons (ps_set (i := 3) sc_mix.nd rfl (.inl rfl) (pe_op op_mod (pe_callTy call_int1 rfl T.int bt_int (pa_cons (pe_op op_add (pe_op op_add (pe_op op_mul (pv 2) (pv 2)) (pe_op op_mul (pe_op op_fdiv (pv 2) pe_int) pe_int)) (pe_op op_mul (pv 1) pe_int)) pa_nil)) pe_int))
      (pss_one (ps_ret (pe_op op_fdiv (pe_op op_mod (pe_callTy call_int1 rfl T.int bt_int (pa_cons (pe_op op_add (pe_op op_fdiv (pe_op op_mul (pv 3) (pv 3)) pe_int) (pv 2)) pa_nil)) pe_int) pe_int)))), ?_⟩
    refine ⟨_, rfl, _, _, rfl, rfl, .inr ⟨by decide, by decide⟩, _, rfl, _, _, rfl, rfl, .inr ⟨by decide, by decide⟩, _, _, rfl, rfl, _, _, rfl, rfl, .inl ⟨_, rfl, _, _, rfl, rfl, (show (0 : Int) < 2147483647 by decide), ?_⟩⟩
    refine ⟨_, rfl, _, rfl, _, _, rfl, rfl, .inl (md64 ⟨by decide, by decide⟩), _, rfl, _, _, rfl, rfl, ⟨by decide, by decide⟩, _, _, rfl, rfl, .inr ⟨by decide, by decide⟩, _, _, rfl, rfl, _, rfl, _, _, rfl, rfl, .inr ⟨by decide, by decide⟩, _, _, rfl, rfl, .inl ⟨_, rfl, _, _, rfl, rfl, (show (0 : Int) < 2147483399 by decide), ?_⟩⟩
    refine ⟨_, rfl, _, rfl, _, _, rfl, rfl, .inl (md64 ⟨by decide, by decide⟩), _, _, rfl, rfl, ⟨by decide, by decide⟩, _, rfl, _, _, rfl, rfl, .inl ⟨_, rfl, _, _, rfl, rfl, (show (0 : Int) < 2147483563 by decide), _, _, rfl, rfl, ⟨by decide, by decide⟩, ?_⟩⟩
    exact k _ (Int.ediv_nonneg (Int.emod_nonneg _ (by decide)) (by decide))
end
/-! ### the hand: a list of the script's figures and three numbers -/
structure HandAt (hd l : Addr) (H : Hp) : Prop where
  ex : ∃ (p c t : Int) (ns : List Int), 0 ≤ p ∧ 0 ≤ c ∧ (∀ n ∈ ns, 0 ≤ n) ∧ H hd = some (.lst [.ref l, .int p, .int c, .int t]) ∧ H l = some (.lst (ns.map V.int))
theorem HandAt.same {hd l : Addr} {H H' : Hp} (s : Same H H') (h : HandAt hd l H) : HandAt hd l H' := by
  obtain ⟨p, c, t, ns, h1, h2, h3, h4, h5⟩ := h.ex
  exact ⟨p, c, t, ns, h1, h2, h3, s _ _ h4, s _ _ h5⟩
theorem HandAt.ne {hd l : Addr} {H : Hp} (h : HandAt hd l H) : l ≠ hd := by
  obtain ⟨p, c, t, ns, h1, h2, h3, h4, h5⟩ := h.ex
  exact ne_of h5 h4 (fun q => by
    injection q with q
    cases ns with
    | nil => cases q
    | cons a r => injection q with q _; cases q)
theorem HandAt.set {hd l : Addr} {H0 H : Hp} {D : Addr} {o : HO} (h0 : HandAt hd l H0) (n : H0 D = none) (h : HandAt hd l H) : HandAt hd l (L2.upd H D o) := by
  obtain ⟨p, c, t, ns, h1, h2, h3, h4, h5⟩ := h.ex
  obtain ⟨_, _, _, _, _, _, _, g4, g5⟩ := h0.ex
  exact ⟨p, c, t, ns, h1, h2, h3, by rw [upd_ne (ne_of_none g4 n)]; exact h4, by rw [upd_ne (ne_of_none g5 n)]; exact h5⟩
theorem KeepBut.set {hd : Addr} {H0 H : Hp} {D : Addr} {o : HO} (k : KeepBut hd H0 H) (n : H0 D = none) : KeepBut hd H0 (L2.upd H D o) := fun b u e ne => by
  rw [upd_ne (ne_of_none e n)]
  exact k b u e ne
theorem KeepBut.new {hd : Addr} {H0 H : Hp} {D : Addr} {o : HO} (k : KeepBut hd H0 H) (n : H D = none) : KeepBut hd H0 (L2.upd H D o) := k.trans (Same.upd n).but
theorem KeepBut.same {hd : Addr} {H0 H H' : Hp} (k : KeepBut hd H0 H) (s : Same H H') : KeepBut hd H0 H' := k.trans s.but
/-! ### _law_hand -/
def spHand (K : PySem.W.Frag) : Sp := fun vs H Q _ => ∃ (a : Addr) (ns : List Int), vs = [.ref a] ∧ SqL K H a (ns.map V.int) ∧ ns.length ≤ 1000 ∧ ∀ (hd l : Addr) (H' : Hp), Same H H' → H hd = none → HandAt hd l H' → Q (.ref hd) H'
theorem sc_hand : FnScope ["_law_script", "_law_total", "_law_k", "_law_cell"] ["_law_script"] (defScope (top 29)) := ⟨rfl, rfl, rfl, by decide +kernel, rfl, by decide +kernel, by decide +kernel⟩
section
variable {P : Program} {w : World} {K : PySem.W.Frag} {mg : Str → Option Value} {base : Heap}
theorem got_hand (T : Txt K mg) (D : DefAt K mg "_law_hand" (top 29)) : Got P w K mg base CX0 1 "_law_hand" ["_law_script"] (spHand K) := by
  refine got0 D sc_hand (fun _ _ _ _ _ _ us hl => match us, hl with | [_], _ => rfl) (fun vs H Q E h => ?_) (fun f cdv A outer s0 H vs Q E hr h => ?_)
  · obtain ⟨a, ns, rfl, _⟩ := h
    rfl
  · obtain ⟨a, ns, rfl, ha, hn, k⟩ := h
    refine ⟨_, pss_cons (ps_set (i := 1) sc_hand.nd rfl (.inl rfl) pe_int)
      (pss_cons (ps_for PassesOwn.never rfl (pi_enum rfl T.enum (pa_cons (pv 0) pa_nil)) (pg_tup rfl (pgs_cons (pg_name (i := 2) sc_hand.nd rfl (.inl rfl)) (pgs_cons (pg_name (i := 3) sc_hand.nd rfl (.inl rfl)) pgs_nil)))
        (pss_one (ps_set (i := 1) sc_hand.nd rfl (.inl rfl) (pe_op op_mod (pe_callTy call_int1 rfl T.int bt_int (pa_cons (pe_op op_add (pe_op op_mul (pv 1) pe_int) (pe_op op_mul (pe_callTy call_int1 rfl T.int bt_int (pa_cons (pv 3) pa_nil)) (pe_op op_add (pv 2) pe_int))) pa_nil)) pe_int))))
      (pss_one (ps_ret (pe_lst (pa_cons (pe_lc (own := [("_law_cell", 3)]) (g := gName 3) (tt := tYes) rfl sc_hand.nd (pi_list (pv 0)) (blkOk_by (own := [("_law_cell", 3)]) (N := ["_law_script", "_law_total", "_law_k", "_law_cell"]) (sc := defScope (top 29)) (by decide +kernel))
            (fun _ _ _ _ _ => pg_name (i := 3) sc_hand.nd rfl (.inl rfl)) (fun _ _ _ _ _ => pts_nil) (fun _ _ _ _ _ => pe_callB call_abs rfl T.abs bb_abs (pa_cons (pe_callTy call_int1 rfl T.int bt_int (pa_cons (pv 3) pa_nil)) pa_nil)))
          (pa_cons pe_int (pa_cons pe_int (pa_cons (pv 1) pa_nil)))))))), ?_⟩
    refine ⟨_, rfl, a, _, rfl, ha, for_it walk_enum (fun i σ H3 => ∃ (t : Int) (kv cv : Option V), σ = [some (.ref a), some (.int t), kv, cv] ∧ Same H H3) ⟨7, none, none, rfl, Same.refl H⟩ (fun i σ H3 _ ⟨_, _, _, _, e3⟩ => e3.seq ha) ?_ ?_⟩
    · rintro i x σ H3 H4 hi ⟨t, kv, cv, rfl, e3⟩ ⟨T0, x0, y0, rfl, hT, rfl, ex, ey⟩
      cases ex
      rw [List.length_map] at hi
      obtain ⟨y, rfl⟩ : ∃ y : Int, y0 = V.int y := by
        dsimp only at ey
        rw [List.getElem?_map] at ey
        cases q : ns[i]? with
        | none => rw [q] at ey; cases ey
        | some y => rw [q] at ey; exact ⟨y, (Option.some.inj ey).symm⟩
      refine ⟨T0, _, rfl, .of upd_same, rfl, _, _, rfl, _, _, rfl, rfl, ?_⟩
      refine ⟨_, rfl, _, _, rfl, rfl, .inr ⟨by decide, by decide⟩, _, rfl, .inl ⟨_, rfl, _, rfl, _, _, rfl, rfl, _, _, rfl, rfl, .inr ⟨by omega, by omega⟩, _, _, rfl, rfl, .inl ⟨_, rfl, _, _, rfl, rfl, (show (0 : Int) < 2147483629 by decide), ?_⟩⟩⟩
      exact ⟨_, _, _, rfl, e3.new hT⟩
    · rintro σ H3 ⟨t, kv, cv, rfl, e3⟩
      have ha3 := e3.seq ha
      refine ⟨_, rfl, a, rfl, ⟨_, ha3⟩, fun D hD => lc_list (K := K) (a := a) (xs := ns.map V.int) (fun i H4 => Same H3 H4 ∧ ∃ ms : List Int, H4 D = some (.lst (ms.map V.int)) ∧ ms.length = i ∧ ∀ n ∈ ms, 0 ≤ n) ⟨Same.upd hD, [], upd_same, rfl, fun n hn => by cases hn⟩ (fun i H4 _ h4 => h4.1.seq ha3) ?_ ?_⟩
      · rintro i x H4 hi ⟨e4, ms, d4, l4, n4⟩
        obtain ⟨y, hy, rfl⟩ : ∃ y : Int, ns[i]? = some y ∧ x = V.int y := by
          rw [List.getElem?_map] at hi
          cases q : ns[i]? with
          | none => rw [q] at hi; cases hi
          | some y => rw [q] at hi; exact ⟨y, rfl, (Option.some.inj hi).symm⟩
        refine ⟨rfl, ?_⟩
        dsimp only [tYes]
        have := lt_of_get hy
        refine iteT ⟨_, rfl, .inl ⟨_, rfl, _, rfl, _, d4, ?_, e4.set hD, ms ++ [if y < 0 then -y else y], ?_, ?_, ?_⟩⟩
        · rw [List.length_map]
          exact small1000 (by omega)
        · rw [upd_same, List.map_append]
          rfl
        · rw [List.length_append, l4]
          rfl
        · intro n hn2
          rcases List.mem_append.mp hn2 with q | q
          · exact n4 n q
          · rw [List.mem_singleton] at q
            subst q
            split <;> omega
      · rintro H4 ⟨e4, ms, d4, l4, n4⟩
        refine ⟨_, rfl, (by show 4 ≤ sizeLine; decide), fun hd hh => ?_⟩
        have e5 := e3.trans e4
        refine k hd D _ (e5.new hh) ?_ ⟨0, 0, t, ms, Int.le_refl _, Int.le_refl _, n4, upd_same, Same.upd hh _ _ d4⟩
        cases q : H hd with
        | none => rfl
        | some o => rw [e5 _ _ q] at hh; cases hh
end
end K3
namespace K3
open PySem PySem.Spec PyProof.Rows L2
/-! ### _law_draw -/
theorem KeepBut.own {hd : Addr} {H0 H : Hp} {o : HO} (k : KeepBut hd H0 H) : KeepBut hd H0 (L2.upd H hd o) := fun b u e ne => by
  rw [upd_ne ne]
  exact k b u e ne
def spDraw : Sp := fun vs H Q _ => ∃ (hd l : Addr) (m : Int), vs = [.ref hd, .int m] ∧ HandAt hd l H ∧ 0 < m ∧ m < 1073741824 ∧ ∀ (r : Int) (H' : Hp), 0 ≤ r → r < m → KeepBut hd H H' → HandAt hd l H' → Q (.int r) H'
theorem sc_draw : FnScope ["_law_hand_here", "_law_many", "_law_cell", "_law_rest"] ["_law_hand_here", "_law_many"] (defScope (top 30)) := ⟨rfl, rfl, rfl, by decide +kernel, rfl, by decide +kernel, by decide +kernel⟩
section
variable {P : Program} {w : World} {K : PySem.W.Frag} {mg : Str → Option Value} {base : Heap}
theorem got_draw (T : Txt K mg) (D : DefAt K mg "_law_draw" (top 30)) (G : Got P w K mg base CX0 1 "_law_mix" ["_law_number", "_law_turn"] spMix) : Got P w K mg base CX0 2 "_law_draw" ["_law_hand_here", "_law_many"] spDraw := by
  obtain ⟨f1, fd1, F1, m1, k1, b1⟩ := G
  refine got0 D sc_draw (fun _ _ _ _ _ _ us hl => match us, hl with | [_, _], _ => rfl) (fun vs H Q E h => ?_) (fun f cdv A outer s0 H vs Q E hr h => ?_)
  · obtain ⟨hd, l, m, rfl, _⟩ := h
    rfl
  · obtain ⟨hd, l, m, rfl, hA, m0, m1', k⟩ := h
    have ne := hA.ne
    obtain ⟨p, c, t, ns, hp0, hc0, hns, hH, hl⟩ := hA.ex
    refine ⟨_, pss_cons (ps_if (PW.pt (pw_and (pt_cmpR op_eq (pe_ix ix_list (pv 0) pe_int (fun _ _ => rfl)) pe_int (nomark _)) (pw_and1 (pt_cmpR op_lt (pe_ix ix_list (pv 0) pe_int (fun _ _ => rfl)) (pe_len T.len (pe_ix ix_list (pv 0) pe_int (fun _ _ => rfl))) (nomark _)))))
        (pss_cons (ps_set (i := 2) sc_draw.nd rfl (.inl rfl) (pe_ix ix_list (pe_ix ix_list (pv 0) pe_int (fun _ _ => rfl)) (pe_ix ix_list (pv 0) pe_int (fun _ _ => rfl)) (fun _ _ => rfl)))
        (pss_cons (ps_asg (pe_op op_add (pe_ix ix_list (pv 0) pe_int (fun _ _ => rfl)) pe_int) (pg_sub (pv 0) pe_int set_list))
        (pss_cons (ps_if (pt_cmpR op_lt (pv 2) (pe_op op_pow pe_int pe_int) (nomark _))
          (pss_one (ps_ret (pe_op op_mod (pe_callTy call_int1 rfl T.int bt_int (pa_cons (pe_call F1 hr rfl m1 k1 b1 .nil pass0 (pa_cons (pe_op op_mod (pe_callTy call_int1 rfl T.int bt_int (pa_cons (pv 2) pa_nil)) pe_int) (pa_cons (pe_ix ix_list (pv 0) pe_int (fun _ _ => rfl)) pa_nil))) pa_nil)) (pv 1)))) pss_nil)
        (pss_one (ps_asg (pv 2) (pg_sub (pv 0) pe_int set_list)))))) pss_nil)
      (pss_cons (ps_if (pt_cmpR op_gt (pe_ix ix_list (pv 0) pe_int (fun _ _ => rfl)) pe_int (nomark _))
        (pss_cons (ps_set (i := 3) sc_draw.nd rfl (.inl rfl) (pe_ix ix_list (pv 0) pe_int (fun _ _ => rfl)))
        (pss_cons (ps_asg (pe_op op_fdiv (pv 3) (pv 1)) (pg_sub (pv 0) pe_int set_list))
        (pss_one (ps_ret (pe_op op_mod (pe_callTy call_int1 rfl T.int bt_int (pa_cons (pv 3) pa_nil)) (pv 1)))))) pss_nil)
      (pss_cons (ps_asg (pe_op op_mod (pe_callTy call_int1 rfl T.int bt_int (pa_cons (pe_op op_add (pe_ix ix_list (pv 0) pe_int (fun _ _ => rfl)) pe_int) pa_nil)) pe_int) (pg_sub (pv 0) pe_int set_list))
      (pss_one (ps_ret (pe_op op_mod (pe_callTy call_int1 rfl T.int bt_int (pa_cons (pe_call F1 hr rfl m1 k1 b1 .nil pass0 (pa_cons (pe_ix ix_list (pv 0) pe_int (fun _ _ => rfl)) (pa_cons (pe_ix ix_list (pv 0) pe_int (fun _ _ => rfl)) pa_nil))) pa_nil)) (pv 1)))))), ?_⟩
    refine ⟨_, rfl, hd, _, 2, .int c, rfl, rfl, .of hH, rfl, rfl, _, rfl, ?_⟩
    by_cases q0 : c = 0
    case' neg =>
      refine ifF (decide_eq_false (fun q => q0 (by injection q))) (ifF rfl ?_)
      have kb4 := KeepBut.refl hd H
      have hH4 := hH
      have hl4 := hl
      have hp4 := hp0
      have hc4 := hc0
    case' pos =>
      refine ifT (decide_eq_true (by rw [q0])) ⟨_, rfl, hd, _, 1, .int p, rfl, rfl, .of hH, rfl, _, rfl, hd, _, 0, .ref l, rfl, rfl, .of hH, rfl, l, _, rfl, .inl (.of hl), _, _, rfl, rfl, _, rfl, ?_⟩
      rw [List.length_map]
      by_cases q1 : p < ns.length
      case' pos =>
        obtain ⟨n, hn⟩ : ∃ n, ns[p.toNat]? = some n := ⟨_, List.getElem?_eq_getElem (by omega)⟩
        have n0 := hns n (List.mem_of_getElem? hn)
        refine ifT (decide_eq_true q1) ⟨_, rfl, hd, _, 0, .ref l, rfl, rfl, .of hH, rfl, _, rfl, hd, _, 1, .int p, rfl, rfl, .of hH, rfl, l, _, p, .int n, rfl, rfl, .of hl, at_of (j := p.toNat) (by omega) (by rw [List.getElem?_map, hn]; rfl), ?_⟩
        refine ⟨_, rfl, hd, _, 1, .int p, rfl, rfl, .of hH, rfl, _, _, rfl, rfl, _, rfl, hd, _, 1, 1, rfl, rfl, hH, rfl, ?_⟩
        have kb := (KeepBut.refl hd H).own (o := .lst [.ref l, .int (p + 1), .int c, .int t])
        have hH1 : (upd H hd (.lst [.ref l, .int (p + 1), .int c, .int t])) hd = _ := upd_same
        have hl1 : (upd H hd (.lst [.ref l, .int (p + 1), .int c, .int t])) l = _ := (upd_ne ne).trans hl
        change tSeq _ _ _ _ (upd H hd (.lst [.ref l, .int (p + 1), .int c, .int t]))
        generalize upd H hd (.lst [.ref l, .int (p + 1), .int c, .int t]) = H1 at kb hH1 hl1 ⊢
        refine ⟨_, rfl, _, _, rfl, rfl, ⟨by decide, by decide, by decide⟩, _, _, rfl, rfl, _, rfl, ?_⟩
        refine ite2 (fun _ => ?_) (fun _ => ?_)
        · exact ⟨_, rfl, .inl ⟨_, rfl, _, _, rfl, rfl, (show (0 : Int) < 2147483647 by decide), _, rfl, hd, _, 1, _, rfl, rfl, .of hH1, rfl, _, _, rfl, fun r hr => .inl ⟨_, rfl, _, rfl, _, _, rfl, rfl, m0,
            k _ _ (Int.emod_nonneg _ (by omega)) (Int.emod_lt_of_pos _ m0) kb ⟨p + 1, c, t, ns, by omega, hc0, hns, hH1, hl1⟩⟩⟩⟩
        refine ⟨_, rfl, _, rfl, hd, _, 2, 2, rfl, rfl, hH1, rfl, ?_⟩
        have kb4 := kb.own (o := .lst [.ref l, .int (p + 1), .int n, .int t])
        have hH4 : (upd H1 hd (.lst [.ref l, .int (p + 1), .int n, .int t])) hd = _ := upd_same
        have hl4 : (upd H1 hd (.lst [.ref l, .int (p + 1), .int n, .int t])) l = _ := (upd_ne ne).trans hl1
        change tSeq _ _ _ _ (upd H1 hd (.lst [.ref l, .int (p + 1), .int n, .int t]))
        generalize upd H1 hd (.lst [.ref l, .int (p + 1), .int n, .int t]) = H4 at kb4 hH4 hl4 ⊢
        have hp4 : 0 ≤ p + 1 := by omega
        have hc4 := n0
      case' neg =>
        refine ifF (decide_eq_false q1) ?_
        have kb4 := KeepBut.refl hd H
        have hH4 := hH
        have hl4 := hl
        have hp4 := hp0
        have hc4 := hc0
    all_goals
      refine ⟨_, rfl, hd, _, 2, _, rfl, rfl, .of hH4, rfl, _, _, rfl, rfl, _, rfl, ?_⟩
      refine ite2 (fun _ => ?_) (fun _ => ?_)
      · refine ⟨_, rfl, hd, _, 2, _, rfl, rfl, .of hH4, rfl, ?_⟩
        refine ⟨_, rfl, _, rfl, _, _, rfl, rfl, ⟨m0, m1'⟩, _, rfl, hd, _, 2, 2, rfl, rfl, hH4, rfl, ?_⟩
        exact ⟨_, rfl, .inl ⟨_, rfl, _, rfl, _, _, rfl, rfl, m0, k _ _ (Int.emod_nonneg _ (by omega)) (Int.emod_lt_of_pos _ m0) kb4.own ⟨_, _, _, ns, hp4, Int.ediv_nonneg hc4 (by omega), hns, upd_same, (upd_ne ne).trans hl4⟩⟩⟩
      · refine ⟨_, rfl, hd, _, 3, _, rfl, rfl, .of hH4, rfl, _, _, rfl, rfl, .inl ⟨_, rfl, _, _, rfl, rfl, (show (0 : Int) < 2147483629 by decide), _, rfl, hd, _, 3, 3, rfl, rfl, hH4, rfl, ?_⟩⟩
        exact ⟨_, rfl, hd, _, 3, _, rfl, rfl, .of upd_same, rfl, _, rfl, hd, _, 1, _, rfl, rfl, .of upd_same, rfl, _, _, rfl, fun r hr => .inl ⟨_, rfl, _, rfl, _, _, rfl, rfl, m0,
          k _ _ (Int.emod_nonneg _ (by omega)) (Int.emod_lt_of_pos _ m0) kb4.own ⟨_, _, _, ns, hp4, hc4, hns, upd_same, (upd_ne ne).trans hl4⟩⟩⟩
end
end K3
/-! _law_exact: told and due hold one and the same data -/
namespace K3
open PySem PySem.Spec PyProof.Rows L2
/-- v holds d, d less deep than n -/
def Hold : Nat → Hp → PyData → V → Prop
  | 0, _, _, _ => False
  | _ + 1, _, .int i, v => v = .int i
  | _ + 1, _, .str z, v => v = .str z
  | n + 1, H, .tuple ds, v => ∃ (p : Addr) (xs : List V), v = .ref p ∧ H p = some (.tup xs) ∧ xs.length = ds.length ∧ ds.length ≤ 1000 ∧ ∀ (i : Nat) (x : V) (e : PyData), xs[i]? = some x → ds[i]? = some e → Hold n H e x
  | _ + 1, _, _, _ => False
theorem Hold.same {H H' : Hp} (s : Same H H') : ∀ {n : Nat} {d : PyData} {v : V}, Hold n H d v → Hold n H' d v
  | 0, _, _, h => h.elim
  | _ + 1, .int _, _, h => h
  | _ + 1, .str _, _, h => h
  | n + 1, .tuple ds, v, ⟨p, xs, h1, h2, h3, h4, h5⟩ => ⟨p, xs, h1, s _ _ h2, h3, h4, fun i x e a b => Hold.same s (h5 i x e a b)⟩
  | _ + 1, .none, _, h => h.elim
  | _ + 1, .bool _, _, h => h.elim
  | _ + 1, .list _, _, h => h.elim
  | _ + 1, .dict _, _, h => h.elim
def spExact (n : Nat) : Sp := fun vs H Q _ => ∃ (x y : V) (d : PyData), vs = [x, y] ∧ Hold n H d x ∧ Hold n H d y ∧ ∀ H', Same H H' → Q (.bl true) H'
theorem sc_exact : FnScope ["_law_told", "_law_due", "_law_k"] ["_law_told", "_law_due"] (defScope (top 31)) := ⟨rfl, rfl, rfl, by decide +kernel, rfl, by decide +kernel, by decide +kernel⟩
section
variable {P : Program} {w : World} {K : PySem.W.Frag} {mg : Str → Option Value} {base : Heap}
theorem exact_step (T : Txt K mg) (D : DefAt K mg "_law_exact" (top 31)) {n : Nat} {j : Nat} (G : Got P w K mg base CX0 j "_law_exact" ["_law_told", "_law_due"] (spExact n)) : Got P w K mg base CX0 (j + 1) "_law_exact" ["_law_told", "_law_due"] (spExact (n + 1)) := by
  obtain ⟨f1, fd1, F1, m1, k1, b1⟩ := G
  refine got0 D sc_exact (fun _ _ _ _ _ _ us hl => match us, hl with | [_, _], _ => rfl) (fun vs H Q E h => ?_) (fun f cdv A outer s0 H vs Q E hr h => ?_)
  · obtain ⟨x, y, d, rfl, _⟩ := h
    rfl
  · obtain ⟨x, y, d, rfl, hx, hy, k⟩ := h
    refine ⟨_, pss_cons (ps_if (pt_val (pe_isin T.isin (pv 1) (pe_ty T.tuple bt_tuple)))
        (pss_cons (ps_if (PW.pt (pw_or (pt_not (pt_val (pe_isin T.isin (pv 0) (pe_ty T.tuple bt_tuple)))) (pw_or1 (pt_cmpR op_ne (pe_len T.len (pv 0)) (pe_len T.len (pv 1)) (nomark _))))) (pss_one (ps_ret pe_bl)) pss_nil)
        (pss_one (ps_ret (pe_cmpR (op_eqD hr.units) (pe_lc (own := [("_law_k", 2)]) (g := gName 2) (tt := tNot (tB (tCall (spExact n) [] E0 (tCons (tOp (rIxT K) (tVar 0) (tVar 2)) (tCons (tOp (rIxT K) (tVar 1) (tVar 2)) tNil))))) (te := tVar 2) rfl sc_exact.nd (pi_range1 rfl T.range (pa_cons (pe_len T.len (pv 1)) pa_nil))
            (blkOk_by (own := [("_law_k", 2)]) (N := ["_law_told", "_law_due", "_law_k"]) (sc := defScope (top 31)) (by decide +kernel)) (fun _ _ _ _ _ => pg_name (i := 2) sc_exact.nd rfl (.inl rfl))
            (fun _ _ _ _ _ => pts_one (pt_not (pt_val (by exact (pe_call F1 hr rfl m1 k1 b1 .nil pass0 (pa_cons (pe_ix ix_tup (pv 0) (pv 2) (fun _ _ => rfl)) (pa_cons (pe_ix ix_tup (pv 1) (pv 2) (fun _ _ => rfl)) pa_nil))))))) (fun _ _ _ _ _ => pv 2)) (pe_lst pa_nil) (nomark _))))) pss_nil)
      (pss_cons (ps_if (pt_cmp (pc_isN (pv 1)) rfl) (pss_one ps_never) pss_nil)
      (pss_cons (ps_if (pt_val (pe_isin T.isin (pv 1) (pe_ty T.bool bt_bool))) (pss_one ps_never) pss_nil)
      (pss_cons (ps_if (pt_val (pe_isin T.isin (pv 1) (pe_ty T.str bt_str))) (pss_one (ps_ret (pe_and (pe_isin T.isin (pv 0) (pe_ty T.str bt_str)) (pe_one (pe_cmpR op_eq (pv 0) (pv 1) (nomark _)))))) pss_nil)
      (pss_one (ps_ret (pe_and (pe_isin T.isin (pv 0) (pe_ty T.int bt_int)) (pe_and (pe_not (pe_isin T.isin (pv 0) (pe_ty T.bool bt_bool))) (pe_one (pe_cmpR op_eq (pv 0) (pv 1) (nomark _)))))))))), ?_⟩
    match d, hx, hy with
    | .int i, hx, hy =>
      cases (show x = V.int i from hx)
      cases (show y = V.int i from hy)
      refine ⟨_, rfl, _, _, _, _, false, rfl, .ty "tuple", .base (.int i), kit_ty (by decide +kernel), false, rfl, iteF ?_⟩
      refine ⟨_, rfl, _, rfl, ifF (decide_eq_false (fun q => by cases q)) ?_⟩
      refine ⟨_, rfl, _, _, _, _, false, rfl, .ty "bool", .base (.int i), kit_ty (by decide +kernel), false, rfl, iteF ?_⟩
      refine ⟨_, rfl, _, _, _, _, false, rfl, .ty "str", .base (.int i), kit_ty (by decide +kernel), false, rfl, iteF ?_⟩
      refine ⟨_, rfl, _, _, _, _, true, rfl, .ty "int", .base (.int i), kit_ty (by decide +kernel), true, rfl, iteT ?_⟩
      refine ⟨_, rfl, _, _, _, _, false, rfl, .ty "bool", .base (.int i), kit_ty (by decide +kernel), false, rfl, true, rfl, iteT ?_⟩
      refine ⟨_, rfl, _, rfl, rfl, ?_⟩
      rw [decide_eq_true rfl]
      exact k H (Same.refl H)
    | .str z, hx, hy =>
      cases (show x = V.str z from hx)
      cases (show y = V.str z from hy)
      refine ⟨_, rfl, _, _, _, _, false, rfl, .ty "tuple", .base (.str z), kit_ty (by decide +kernel), false, rfl, iteF ?_⟩
      refine ⟨_, rfl, _, rfl, ifF (decide_eq_false (fun q => by cases q)) ?_⟩
      refine ⟨_, rfl, _, _, _, _, false, rfl, .ty "bool", .base (.str z), kit_ty (by decide +kernel), false, rfl, iteF ?_⟩
      refine ⟨_, rfl, _, _, _, _, true, rfl, .ty "str", .base (.str z), kit_ty (by decide +kernel), true, rfl, iteT ?_⟩
      refine ⟨_, rfl, _, _, _, _, true, rfl, .ty "str", .base (.str z), kit_ty (by decide +kernel), true, rfl, iteT ?_⟩
      refine ⟨_, rfl, _, rfl, rfl, ?_⟩
      rw [decide_eq_true rfl]
      exact k H (Same.refl H)
    | .tuple ds, hx, hy =>
      obtain ⟨p, xs, rfl, hp, lx, l1, ex⟩ := hx
      obtain ⟨q, ys, rfl, hq, ly, _, ey⟩ := hy
      refine ⟨_, rfl, _, _, _, _, true, rfl, .ty "tuple", .base (.tup hq), kit_ty (by decide +kernel), true, rfl, iteT ?_⟩
      refine ⟨_, rfl, _, _, _, _, true, rfl, .ty "tuple", .base (.tup hp), kit_ty (by decide +kernel), true, rfl, iteF ?_⟩
      refine ⟨_, rfl, p, _, rfl, .inr (.of hp), _, rfl, q, _, rfl, .inr (.of hq), rfl, _, rfl, iteNS (by rw [lx, ly]) ?_⟩
      refine ⟨_, rfl, q, _, rfl, .inr (.of hq), _, rfl, (small62 (by omega)).1, (small62 (by omega)).2, fun D hD => lc_range (lo := 0) (n := (ys.length : Int).toNat) (fun i H2 => Same H H2 ∧ H2 D = some (.lst [])) ⟨Same.upd hD, upd_same⟩ ?_ ?_⟩
      · rintro i H2 hi ⟨e2, d2⟩
        obtain ⟨a, ha⟩ : ∃ a, xs[i]? = some a := ⟨_, List.getElem?_eq_getElem (by omega)⟩
        obtain ⟨b, hb⟩ : ∃ b, ys[i]? = some b := ⟨_, List.getElem?_eq_getElem (by omega)⟩
        obtain ⟨e, he⟩ : ∃ e, ds[i]? = some e := ⟨_, List.getElem?_eq_getElem (by omega)⟩
        refine ⟨rfl, ?_⟩
        refine ⟨_, rfl, _, rfl, p, _, _, a, rfl, rfl, .of (e2 _ _ hp), at_of (j := i) (by omega) ha, _, rfl, _, rfl, q, _, _, b, rfl, rfl, .of (e2 _ _ hq), at_of (j := i) (by omega) hb, a, b, e, rfl, (ex i a e ha he).same e2, (ey i b e hb he).same e2, fun H3 e3 => ⟨true, rfl, iteF ⟨e2.trans e3, e3 _ _ d2⟩⟩⟩
      · rintro H2 ⟨e2, d2⟩
        refine ⟨(by show 0 ≤ sizeLine; decide), fun b hb => ?_⟩
        have e3 : Same H2 (upd H2 b (.lst [])) := Same.upd hb
        refine ⟨.list [], .list [], .lst (.of (e3 _ _ d2)) .nil, .lst (.of upd_same) .nil, shaped_rowsL [], shaped_rowsL [], ?_⟩
        exact k _ (e2.trans e3)
theorem got_exact (T : Txt K mg) (D : DefAt K mg "_law_exact" (top 31)) : ∀ n : Nat, Got P w K mg base CX0 (n + 1) "_law_exact" ["_law_told", "_law_due"] (spExact n)
  | 0 => by
    refine got0 D sc_exact (fun _ _ _ _ _ _ us hl => match us, hl with | [_, _], _ => rfl) (fun vs H Q E h => ?_) (fun f cdv A outer s0 H vs Q E hr h => ?_)
    · obtain ⟨x, y, d, rfl, _⟩ := h
      rfl
    · obtain ⟨x, y, d, rfl, hx, _⟩ := h
      exact hx.elim
  | n + 1 => exact_step T D (got_exact T D n)
end
end K3
/-! the law's book: _law_ways, _law_flat, _law_large_book -/
namespace K3
open PySem PySem.Spec PyProof.Rows L2
/-! ### _law_ways -/
def spWays : Sp := fun vs H Q _ => ∃ (a : Addr) (aw : List AW) (s c : Int), vs = [.ref a] ∧ H a = some (.lst (adr aw)) ∧ Stand H aw ∧ aw.length ≤ 1000 ∧ 1 ≤ s ∧ s ≤ 6 ∧ 1 ≤ c ∧ c ≤ 4 ∧ (∀ x ∈ wys aw, x.ok s c) ∧ covers s c (wys aw) = true ∧
  ∀ (H' : Hp) (q : Addr) (kw : List AW), Same H H' → H' q = some (.tup (adr kw)) → Stand H' kw → BookOk s c (wys kw) → Q (.ref q) H'
theorem sc_ways : FnScope ["_law_rows", "_law_kept", "_law_way"] ["_law_rows"] (defScope (top 32)) := ⟨rfl, rfl, rfl, by decide +kernel, rfl, by decide +kernel, by decide +kernel⟩
/-- what stands in kw when the first i of bw are seen -/
structure KeptAt (bw : List Way) (i : Nat) (kw : List Way) : Prop where
  len : kw.length ≤ i
  asc : Asc kw
  sub : ∀ x ∈ kw, x ∈ bw.take i
  sup : ∀ x ∈ bw.take i, x ∈ kw
theorem KeptAt.nil {bw : List Way} : KeptAt bw 0 [] := ⟨Nat.le_refl _, List.Pairwise.nil, fun x hx => (by cases hx), fun x hx => (by simp at hx)⟩
theorem KeptAt.skip {bw kw : List Way} {i : Nat} {x : Way} (h : KeptAt bw i kw) (e : bw[i]? = some x) (m : x ∈ kw) : KeptAt bw (i + 1) kw := by
  refine ⟨Nat.le_succ_of_le h.len, h.asc, fun y hy => ?_, fun y hy => ?_⟩
  · rw [take_more e]
    exact List.mem_append_left _ (h.sub y hy)
  · rw [take_more e] at hy
    rcases List.mem_append.mp hy with hy | hy
    · exact h.sup y hy
    · rw [List.mem_singleton] at hy
      subst hy
      exact m
theorem KeptAt.put {bw kw : List Way} {i : Nat} {x : Way} (h : KeptAt bw i kw) (e : bw[i]? = some x) (m : ∀ v, kw.getLast? = some v → v.key < x.key) : KeptAt bw (i + 1) (kw ++ [x]) := by
  refine ⟨by rw [List.length_append]; exact Nat.succ_le_succ h.len, asc_snoc h.asc m, fun y hy => ?_, fun y hy => ?_⟩
  · rw [take_more e]
    rcases List.mem_append.mp hy with hy | hy
    · exact List.mem_append_left _ (h.sub y hy)
    · exact List.mem_append_right _ hy
  · rw [take_more e] at hy
    rcases List.mem_append.mp hy with hy | hy
    · exact List.mem_append_left _ (h.sup y hy)
    · exact List.mem_append_right _ hy
theorem sorted_at {ws : List Way} (h : (ws.map Way.key).Pairwise (· ≤ ·)) {i : Nat} {x y : Way} (hx : ws[i]? = some x) (hy : y ∈ ws.take i) : y.key ≤ x.key := by
  have h1 := List.pairwise_map.mp h
  obtain ⟨j, hj, ej⟩ := List.getElem_of_mem hy
  rw [List.length_take] at hj
  rw [List.getElem_take] at ej
  obtain ⟨l2, e2⟩ := List.getElem?_eq_some_iff.mp hx
  have := List.pairwise_iff_getElem.mp h1 j i (by omega) l2 (by omega)
  rw [ej, e2] at this
  exact this
theorem covers_mem {s c : Int} {u v : List Way} (hs : 0 ≤ s) (hc : 0 ≤ c) (h : covers s c u = true) (m : ∀ x ∈ u, x ∈ v) : covers s c v = true :=
  (covers_iff hs hc).mpr fun a b a0 a1 b0 b1 => let ⟨w, hw, e⟩ := (covers_iff hs hc).mp h a b a0 a1 b0 b1; ⟨w, m w hw, e⟩
section
variable {P : Program} {w : World} {K : PySem.W.Frag} {mg : Str → Option Value} {base : Heap}
theorem got_ways (T : Txt K mg) (D : DefAt K mg "_law_ways" (top 32)) : Got P w K mg base CX0 1 "_law_ways" ["_law_rows"] spWays := by
  refine got0 D sc_ways (fun _ _ _ _ _ _ us hl => match us, hl with | [_], _ => rfl) (fun vs H Q E h => ?_) (fun f cdv A outer s0 H vs Q E hr h => ?_)
  · obtain ⟨a, aw, s, c, rfl, _⟩ := h
    rfl
  · obtain ⟨a, aw, s, c, rfl, ha, hw, hl, s1, s6, c1, c4, ok, cov, k⟩ := h
    refine ⟨_, pss_cons (ps_set (i := 1) sc_ways.nd rfl (.inl rfl) (pe_lst pa_nil))
      (pss_cons (ps_for PassesOwn.never rfl (pi_list (pe_callB (cr_sortedW hr.units) rfl T.sorted bb_sorted (pa_cons (pv 0) pa_nil))) (pg_name (i := 2) sc_ways.nd rfl (.inl rfl))
        (pss_one (ps_if (PW.pt (pw_or (pt_cmpR (op_eqD hr.units) (pv 1) (pe_lst pa_nil) (nomark _)) (pw_or1 (pt_cmpR (op_neD hr.units) (pe_ix ix_list (pv 1) (pe_un un_neg pe_int) (fun _ _ => rfl)) (pv 2) (nomark _)))))
          (pss_one (ps_expr (pe_bm PySem.F.plainAttrs_list PySem.F.slot_list_append PySem.F.type_list_append mt_append (pv 1) (pa_cons (pv 2) pa_nil)))) pss_nil)))
      (pss_one (ps_ret (pe_callTy call_tuple_of rfl T.tuple bt_tuple (pa_cons (pv 1) pa_nil))))), ?_⟩
    refine ⟨(by show 0 ≤ sizeLine; decide), fun L hL => ?_⟩
    have e1 : Same H (upd H L (.lst [])) := Same.upd hL
    have d1 : (upd H L (.lst [])) L = some (.lst (adr [])) := upd_same
    change tSeq _ _ _ _ (upd H L (.lst []))
    generalize upd H L (.lst []) = H1 at e1 d1 ⊢
    have fg : ∀ p ∈ aw, p.2.fig := fun p hp => (ok _ (List.mem_map.mpr ⟨p, hp, rfl⟩)).fig s6 c4
    refine ⟨_, rfl, a, aw, rfl, .of (e1 _ _ ha), fun p hp => ⟨(hw p hp).same e1, fg p hp⟩, fun bw q perm srt hq => ?_⟩
    have e2 : Same H1 (upd H1 q (.lst (adr bw))) := Same.upd hq
    have d2 : (upd H1 q (.lst (adr bw))) q = some (.lst (adr bw)) := upd_same
    have nq : L ≠ q := ne_of_none d1 hq
    have hb : Stand (upd H1 q (.lst (adr bw))) bw := fun p hp => ((hw p (perm.mem_iff.mp hp)).same e1).same e2
    have lb : bw.length = aw.length := perm.length_eq
    have d1 := e2 _ _ d1
    have e12 := e1.trans e2
    change ∃ _, _
    refine ⟨q, rfl, ⟨_, .of d2⟩, ?_⟩
    generalize upd H1 q (.lst (adr bw)) = H2 at e2 d2 hb d1 e12 ⊢
    refine for_list (K := K) (a := q) (xs := adr bw) (fun i σ H3 => ∃ (wv : Option V) (kw : List AW), σ = [some (.ref a), some (.ref L), wv] ∧ Same H H3 ∧ H3 q = some (.lst (adr bw)) ∧ Stand H3 bw ∧ H3 L = some (.lst (adr kw)) ∧ Stand H3 kw ∧ KeptAt (wys bw) i (wys kw))
      ⟨none, [], rfl, e12, d2, hb, d1, fun p hp => (by cases hp), KeptAt.nil⟩ (fun i σ H3 _ ⟨_, _, _, _, d3, _⟩ => .of d3) ?_ ?_
    · rintro i x σ H3 hi ⟨wv, kw, rfl, e3, d3, hb3, dL, hk3, ka⟩
      obtain ⟨p, hp, rfl⟩ := adr_at hi
      have tp := hb3.at hp
      have hx : (wys bw)[i]? = some p.2 := by rw [List.getElem?_map, hp]; rfl
      have lt := lt_of_get hp
      have fp : p.2.fig := fg p (perm.mem_iff.mp (List.mem_of_getElem? hp))
      refine ⟨_, rfl, (by show 0 ≤ sizeLine; decide), fun b hb2 => ⟨_, _, Stand.dpL (hk3.same (Same.upd hb2)) (Same.upd hb2 _ _ dL), .lst (.of upd_same) .nil, shaped_rowsL _, shaped_rowsL [], _, rfl, ?_⟩⟩
      rw [eqv_nil]
      have e4 : Same H3 (upd H3 b (.lst [])) := Same.upd hb2
      generalize upd H3 b (.lst []) = H4 at e4 ⊢
      have dL4 := e4 _ _ dL
      have hk4 := hk3.same e4
      rcases last_split kw with hz | ⟨m, pv, hz⟩
      case' inl =>
        have hkey : ∀ v, (wys kw).getLast? = some v → v.key < p.2.key := fun v hv => by
          rw [hz] at hv
          cases hv
        refine ifT (by rw [hz]; rfl) (ifT rfl ?_)
      case' inr =>
        have ek : adr kw = adr m ++ [V.ref pv.1] := by rw [hz, adr_snoc]
        have mp : pv ∈ kw := by rw [hz]; exact List.mem_append_right _ (List.mem_singleton.mpr rfl)
        have mw : pv.2 ∈ wys kw := List.mem_map.mpr ⟨pv, mp, rfl⟩
        have lw : (wys kw).getLast? = some pv.2 := by rw [hz, wys_snoc, List.getLast?_concat]
        refine ifF (by rw [hz, wys_snoc]; cases wys m <;> rfl) ⟨_, rfl, 1, rfl, L, _, _, _, rfl, rfl, .of dL4, by rw [ek]; exact atI_last _ _, _, rfl, _, _, (hk4 pv mp).dp, (tp.same e4).dp, shaped_row _, shaped_row _, _, rfl, ?_⟩
        rw [eqv_row]
        by_cases hq2 : pv.2.row = p.2.row
        case' pos =>
          rw [decide_eq_true hq2]
          exact iteF ⟨_, kw, rfl, e3.trans e4, e4 _ _ d3, hb3.same e4, dL4, hk4, ka.skip hx (by rw [← row_inj hq2]; exact mw)⟩
        rw [decide_eq_false hq2]
        have hkey : ∀ v, (wys kw).getLast? = some v → v.key < p.2.key := fun v hv => by
          rw [lw] at hv
          cases hv
          have h1 := sorted_at srt hx (ka.sub _ mw)
          have f2 : pv.2.fig := by
            have := List.mem_of_mem_take (ka.sub _ mw)
            obtain ⟨q2, hq3, e⟩ := List.mem_map.mp this
            rw [← e]
            exact fg q2 (perm.mem_iff.mp hq3)
          have h2 : pv.2.key ≠ p.2.key := fun e => hq2 (by rw [key_inj f2 fp e])
          omega
        refine iteT ?_
      all_goals
        refine ⟨_, rfl, .inl ⟨rfl, _, .of dL4⟩, ?_⟩
        refine ⟨_, rfl, L, _, _, rfl, rfl, dL4, ?_, _, kw ++ [p], rfl, (e3.trans e4).set hL, ?_, ?_, ?_, ?_, ?_⟩
        · have := ka.len
          rw [wys_len] at this
          rw [adr_len]
          exact small1000 (by omega)
        · rw [upd_ne nq.symm]
          exact e4 _ _ d3
        · intro a ha2
          have t1 := (hb3.same e4) a ha2
          show upd H4 L _ a.1 = _
          rw [upd_ne (ne_of t1 dL4 (fun z => by cases z))]
          exact t1
        · rw [upd_same, adr_snoc]
        · intro a ha2
          have t1 := (hk4.snoc (tp.same e4)) a ha2
          show upd H4 L _ a.1 = _
          rw [upd_ne (ne_of t1 dL4 (fun z => by cases z))]
          exact t1
        · rw [wys_snoc]
          exact ka.put hx hkey
    · rintro σ H3 ⟨wv, kw, rfl, e3, d3, hb3, dL, hk3, ka⟩
      rw [adr_len, ← wys_len bw] at ka
      have su := ka.sub
      have sp := ka.sup
      rw [List.take_length] at su sp
      have m1 : ∀ x ∈ wys bw, x ∈ wys aw := fun x hx => (perm.map _).mem_iff.mp hx
      have m2 : ∀ x ∈ wys aw, x ∈ wys bw := fun x hx => (perm.map _).mem_iff.mpr hx
      exact ⟨_, rfl, L, _, rfl, .inl ⟨.of dL, fun l hl2 => k _ l kw (e3.new hl2) upd_same (hk3.same (Same.upd hl2)) ⟨s1, s6, c1, c4, fun x hx => ok x (m1 x (su x hx)), ka.asc, covers_mem (by omega) (by omega) cov fun x hx => sp x (m2 x hx)⟩⟩⟩
end
/-! ### _law_flat -/
theorem HandAt.get {hd l : Addr} {H : Hp} (h : HandAt hd l H) : ∃ xs, H hd = some (.lst xs) := by
  obtain ⟨p, c, t, ns, _, _, _, h4, _⟩ := h.ex
  exact ⟨_, h4⟩
theorem HandAt.keep {hd l : Addr} {H H' : Hp} (h : HandAt hd l H) (k : KeepBut hd H H') {b : Addr} {xs : List V} (e : H b = some (.tup xs)) : H' b = some (.tup xs) := by
  obtain ⟨ys, hy⟩ := h.get
  exact k _ _ e (ne_of e hy (fun z => by cases z))
theorem HandAt.stand {hd l : Addr} {H H' : Hp} (h : HandAt hd l H) (k : KeepBut hd H H') {aw : List AW} (st : Stand H aw) : Stand H' aw := fun p hp => h.keep k (st p hp)
theorem HandAt.new {hd l : Addr} {H : Hp} {b : Addr} (h : HandAt hd l H) (n : H b = none) : b ≠ hd := fun e => by
  obtain ⟨ys, hy⟩ := h.get
  rw [e, hy] at n
  cases n
structure FlatAt (s c : Int) (i j : Nat) (ws : List Way) : Prop where
  ok : ∀ x ∈ ws, x.ok s c
  len : ws.length ≤ 4 * i + j
  has : ∀ a b : Int, 0 ≤ a → 0 ≤ b → b < c → (a < i ∨ (a = i ∧ b < j)) → ∃ x ∈ ws, x.st = a ∧ x.ca = b
theorem FlatAt.nil {s c : Int} : FlatAt s c 0 0 [] := ⟨fun x hx => (by cases hx), Nat.le_refl _, fun a b _ _ _ h => (by omega)⟩
theorem FlatAt.put {s c : Int} {i j : Nat} {ws : List Way} (h : FlatAt s c i j ws) {x : Way} (ok : x.ok s c) (h1 : x.st = i) (h2 : x.ca = j) : FlatAt s c i (j + 1) (ws ++ [x]) := by
  refine ⟨fun y hy => ?_, by rw [List.length_append]; have := h.len; show _ + 1 ≤ _; omega, fun a b a0 b0 b1 hab => ?_⟩
  · rcases List.mem_append.mp hy with hy | hy
    · exact h.ok y hy
    · rw [List.mem_singleton] at hy
      subst hy
      exact ok
  · by_cases e : a = i ∧ b = j
    · exact ⟨x, List.mem_append_right _ (List.mem_singleton.mpr rfl), by omega, by omega⟩
    · obtain ⟨y, hy, e1⟩ := h.has a b a0 b0 b1 (by omega)
      exact ⟨y, List.mem_append_left _ hy, e1⟩
theorem FlatAt.row {s c : Int} {i j : Nat} {ws : List Way} (h : FlatAt s c i j ws) (hj : (j : Int) = c) (hc : c ≤ 4) : FlatAt s c (i + 1) 0 ws :=
  ⟨h.ok, by have := h.len; omega, fun a b a0 b0 b1 hab => h.has a b a0 b0 b1 (by omega)⟩
def spFlat : Sp := fun vs H Q _ => ∃ (hd l : Addr) (s c : Int), vs = [.ref hd, .int s, .int c, .int 3] ∧ HandAt hd l H ∧ 1 ≤ s ∧ s ≤ 6 ∧ 1 ≤ c ∧ c ≤ 4 ∧
  ∀ (H' : Hp) (R : Addr) (aw : List AW), KeepBut hd H H' → HandAt hd l H' → H R = none → H' R = some (.lst (adr aw)) → Stand H' aw → aw.length ≤ 24 → (∀ x ∈ wys aw, x.ok s c) → covers s c (wys aw) = true → Q (.ref R) H'
theorem sc_flat : FnScope ["_law_hand_here", "_law_states", "_law_calls", "_law_answers", "_law_rows", "_law_state", "_law_call"] ["_law_hand_here", "_law_states", "_law_calls", "_law_answers"] (defScope (top 33)) := ⟨rfl, rfl, rfl, by decide +kernel, rfl, by decide +kernel, by decide +kernel⟩
section
variable {P : Program} {w : World} {K : PySem.W.Frag} {mg : Str → Option Value} {base : Heap}
theorem got_flat (T : Txt K mg) (D : DefAt K mg "_law_flat" (top 33)) (G : Got P w K mg base CX0 2 "_law_draw" ["_law_hand_here", "_law_many"] spDraw) : Got P w K mg base CX0 3 "_law_flat" ["_law_hand_here", "_law_states", "_law_calls", "_law_answers"] spFlat := by
  obtain ⟨f1, fd1, F1, m1, k1, b1⟩ := G
  refine got0 D sc_flat (fun _ _ _ _ _ _ us hl => match us, hl with | [_, _, _, _], _ => rfl) (fun vs H Q E h => ?_) (fun f cdv A outer s0 H vs Q E hr h => ?_)
  · obtain ⟨hd, l, s, c, rfl, _⟩ := h
    rfl
  · obtain ⟨hd, l, s, c, rfl, hA, s1, s6, c1, c4, k⟩ := h
    refine ⟨_, pss_cons (ps_set (i := 4) sc_flat.nd rfl (.inl rfl) (pe_lst pa_nil))
      (pss_cons (ps_for PassesOwn.never rfl (pi_range1 rfl T.range (pa_cons (pv 1) pa_nil)) (pg_name (i := 5) sc_flat.nd rfl (.inl rfl))
        (pss_one (ps_for PassesOwn.never rfl (pi_range1 rfl T.range (pa_cons (pv 2) pa_nil)) (pg_name (i := 6) sc_flat.nd rfl (.inl rfl))
          (pss_one (ps_expr (pe_bm PySem.F.plainAttrs_list PySem.F.slot_list_append PySem.F.type_list_append mt_append (pv 4) (pa_cons
            (pe_tup (pa_cons (pv 5) (pa_cons (pv 6) (pa_cons (pe_call F1 hr rfl m1 k1 b1 .nil pass0 (pa_cons (pv 0) (pa_cons (pv 3) pa_nil))) (pa_cons (pe_call F1 hr rfl m1 k1 b1 .nil pass0 (pa_cons (pv 0) (pa_cons (pv 1) pa_nil))) pa_nil))))) pa_nil)))))))
      (pss_one (ps_ret (pv 4)))), ?_⟩
    refine ⟨(by show 0 ≤ sizeLine; decide), fun R hR => ?_⟩
    have kb0 : KeepBut hd H (upd H R (.lst [])) := (Same.upd hR).but
    have hA0 : HandAt hd l (upd H R (.lst [])) := hA.same (Same.upd hR)
    have d0 : (upd H R (.lst [])) R = some (.lst (adr [])) := upd_same
    have nR : R ≠ hd := hA.new hR
    change tSeq _ _ _ _ (upd H R (.lst []))
    generalize upd H R (.lst []) = H0 at kb0 hA0 d0 ⊢
    refine ⟨_, rfl, _, rfl, by omega, by omega, for_range (lo := 0) (n := s.toNat) (fun i σ H2 => ∃ (sv cv : Option V) (aw : List AW), σ = [some (.ref hd), some (.int s), some (.int c), some (.int 3), some (.ref R), sv, cv] ∧ KeepBut hd H H2 ∧ HandAt hd l H2 ∧ H2 R = some (.lst (adr aw)) ∧ Stand H2 aw ∧ FlatAt s c i 0 (wys aw))
      ⟨none, none, [], rfl, kb0, hA0, d0, fun p hp => (by cases hp), FlatAt.nil⟩ ?_ ?_⟩
    · rintro i σ H2 hi ⟨sv, cv, aw, rfl, kb2, hA2, d2, st2, fl2⟩
      refine ⟨_, rfl, _, rfl, by omega, by omega, for_range (lo := 0) (n := c.toNat) (fun j σ H3 => ∃ (cv : Option V) (aw : List AW), σ = [some (.ref hd), some (.int s), some (.int c), some (.int 3), some (.ref R), some (.int (0 + i)), cv] ∧ KeepBut hd H H3 ∧ HandAt hd l H3 ∧ H3 R = some (.lst (adr aw)) ∧ Stand H3 aw ∧ FlatAt s c i j (wys aw))
        ⟨cv, aw, rfl, kb2, hA2, d2, st2, fl2⟩ ?_ ?_⟩
      · rintro j σ H3 hj ⟨cv, aw, rfl, kb3, hA3, d3, st3, fl3⟩
        refine ⟨_, rfl, .inl ⟨rfl, _, .of d3⟩, _, rfl, _, rfl, _, rfl, _, rfl, hd, l, 3, rfl, hA3, by decide, by decide, fun r1 H4 r10 r11 kb4 hA4 => ?_⟩
        refine ⟨_, rfl, _, rfl, hd, l, s, rfl, hA4, by omega, by omega, fun r2 H5 r20 r21 kb5 hA5 => ?_⟩
        refine ⟨(by show 4 ≤ sizeLine; decide), fun t ht => ?_⟩
        have kb35 := kb4.trans kb5
        have d5 := kb35 _ _ d3 nR
        have st5 := hA3.stand kb35 st3
        have kt : KeepBut hd H (upd H5 t (.tup [.int (0 + i), .int (0 + j), .int r1, .int r2])) := (kb3.trans kb35).new ht
        have ok : Way.ok s c ⟨0 + i, 0 + j, r1, r2⟩ := ⟨⟨by show (0 : Int) ≤ 0 + i; omega, by show (0 : Int) + i < s; omega⟩, ⟨by show (0 : Int) ≤ 0 + j; omega, by show (0 : Int) + j < c; omega⟩, ⟨r10, r11⟩, r20, r21⟩
        have d6 := Same.upd (o := .tup [.int (0 + i), .int (0 + j), .int r1, .int r2]) ht _ _ d5
        refine ⟨R, _, _, rfl, rfl, d6, ?_, _, aw ++ [(t, ⟨0 + i, 0 + j, r1, r2⟩)], rfl, kt.set hR, hA.set hR (hA5.same (Same.upd ht)), ?_, ?_, ?_⟩
        · have := fl3.len
          rw [wys_len] at this
          rw [adr_len]
          exact small1000 (by omega)
        · rw [upd_same, adr_snoc]
        · intro a ha
          have st6 : Stand (upd H5 t (.tup [.int (0 + i), .int (0 + j), .int r1, .int r2])) (aw ++ [(t, ⟨0 + i, 0 + j, r1, r2⟩)]) := Stand.snoc (st5.same (Same.upd ht)) upd_same
          have t1 := st6 a ha
          show upd _ R _ a.1 = _
          rw [upd_ne (ne_of t1 d6 (fun z => by cases z))]
          exact t1
        · rw [wys_snoc]
          exact fl3.put ok (Int.zero_add _) (Int.zero_add _)
      · rintro σ H3 ⟨cv, aw, rfl, kb3, hA3, d3, st3, fl3⟩
        exact ⟨_, _, aw, rfl, kb3, hA3, d3, st3, fl3.row (by omega) c4⟩
    · rintro σ H3 ⟨sv, cv, aw, rfl, kb3, hA3, d3, st3, fl3⟩
      have hl := fl3.len
      rw [wys_len] at hl
      exact ⟨_, rfl, k H3 R aw kb3 hA3 hR d3 st3 (by omega) fl3.ok ((covers_iff (by omega) (by omega)).mpr fun a b a0 a1 b0 b1 => fl3.has a b a0 b0 b1 (by omega))⟩
end
end K3
/-! the law's book: _law_large_book -/
namespace K3
open PySem PySem.Spec PyProof.Rows L2
theorem prod_le {s c : Int} (s1 : 1 ≤ s) (s6 : s ≤ 6) (c1 : 1 ≤ c) (c4 : c ≤ 4) : 0 ≤ s * c * 3 * s ∧ s * c * 3 * s ≤ 432 := by
  rcases (by omega : s = 1 ∨ s = 2 ∨ s = 3 ∨ s = 4 ∨ s = 5 ∨ s = 6) with rfl | rfl | rfl | rfl | rfl | rfl <;>
    rcases (by omega : c = 1 ∨ c = 2 ∨ c = 3 ∨ c = 4) with rfl | rfl | rfl | rfl <;> decide
theorem wide_ok {s c k : Int} (s1 : 1 ≤ s) (c1 : 1 ≤ c) (k0 : 0 ≤ k) (k1 : k < s * c * 3 * s) : Way.ok s c ⟨k / s / (3 * c), k / s / 3 % c, k / s % 3, k % s⟩ := by
  have r0 : 0 ≤ k / s := Int.ediv_nonneg k0 (by omega)
  have r1 : k / s < s * c * 3 := Int.ediv_lt_of_lt_mul (by omega) k1
  have e : s * c * 3 = s * (3 * c) := by rw [Int.mul_assoc, Int.mul_comm c 3]
  refine ⟨⟨Int.ediv_nonneg r0 (by omega), Int.ediv_lt_of_lt_mul (by omega) (by omega)⟩, ⟨Int.emod_nonneg _ (by omega), Int.emod_lt_of_pos _ (by omega)⟩, ⟨Int.emod_nonneg _ (by decide), Int.emod_lt_of_pos _ (by decide)⟩, Int.emod_nonneg _ (by omega), Int.emod_lt_of_pos _ (by omega)⟩
/-- the rows drawn so far -/
structure RowsAt (hd l R : Addr) (s c : Int) (H H2 : Hp) (n : Nat) (aw : List AW) : Prop where
  kb : KeepBut hd H H2
  hA : HandAt hd l H2
  d : H2 R = some (.lst (adr aw))
  st : Stand H2 aw
  len : aw.length ≤ n
  ok : ∀ x ∈ wys aw, x.ok s c
  cov : covers s c (wys aw) = true
theorem RowsAt.put {hd l R : Addr} {s c : Int} {H H2 H3 : Hp} {n : Nat} {aw : List AW} (s1 : 1 ≤ s) (c1 : 1 ≤ c) (h : RowsAt hd l R s c H H2 n aw) (hA : HandAt hd l H) (hR : H R = none) (kb : KeepBut hd H2 H3) (hA3 : HandAt hd l H3) {t : Addr} {x : Way} (tp : Tup H3 t x.row) (ok : x.ok s c) :
    RowsAt hd l R s c H (upd H3 R (.lst (adr aw ++ [V.ref t]))) (n + 1) (aw ++ [(t, x)]) := by
  have d3 := kb _ _ h.d (hA.new hR)
  refine ⟨(h.kb.trans kb).set hR, hA.set hR hA3, by rw [upd_same, adr_snoc], fun a ha => ?_, by rw [List.length_append]; have := h.len; show _ + 1 ≤ _; omega, fun y hy => ?_, ?_⟩
  · have st3 : Stand H3 (aw ++ [(t, x)]) := Stand.snoc (h.hA.stand kb h.st) tp
    have t1 := st3 a ha
    show upd H3 R _ a.1 = _
    rw [upd_ne (ne_of t1 d3 (fun z => by cases z))]
    exact t1
  · rw [wys_snoc] at hy
    rcases List.mem_append.mp hy with hy | hy
    · exact h.ok y hy
    · rw [List.mem_singleton] at hy
      subst hy
      exact ok
  · rw [wys_snoc]
    exact covers_mem (by omega) (by omega) h.cov fun y hy => List.mem_append_left _ hy
theorem RowsAt.room {hd l R : Addr} {s c : Int} {H H2 : Hp} {n : Nat} {aw : List AW} (h : RowsAt hd l R s c H H2 n aw) (hn : n < 1000) : (adr aw).length < sizeLine := by
  have := h.len
  rw [adr_len]
  exact small1000 (by omega)
def spLarge : Sp := fun vs H Q _ => ∃ (hd l : Addr), vs = [.ref hd] ∧ HandAt hd l H ∧
  ∀ (H' : Hp) (p q : Addr) (s c : Int) (kw : List AW), KeepBut hd H H' → HandAt hd l H' → H' p = some (.tup [.int s, .int c, .ref q]) → H' q = some (.tup (adr kw)) → Stand H' kw → BookOk s c (wys kw) → Q (.ref p) H'
theorem sc_large : FnScope ["_law_hand_here", "_law_states", "_law_calls", "_law_rows", "_law_gap", "_law_k", "_law_rest", "_law_turn", "_law_state"] ["_law_hand_here"] (defScope (top 34)) := ⟨rfl, rfl, rfl, by decide +kernel, rfl, by decide +kernel, by decide +kernel⟩
section
variable {P : Program} {w : World} {K : PySem.W.Frag} {mg : Str → Option Value} {base : Heap}
theorem got_large (T : Txt K mg) (D : DefAt K mg "_law_large_book" (top 34)) (G1 : Got P w K mg base CX0 2 "_law_draw" ["_law_hand_here", "_law_many"] spDraw) (G2 : Got P w K mg base CX0 3 "_law_flat" ["_law_hand_here", "_law_states", "_law_calls", "_law_answers"] spFlat)
    (G3 : Got P w K mg base CX0 1 "_law_ways" ["_law_rows"] spWays) : Got P w K mg base CX0 4 "_law_large_book" ["_law_hand_here"] spLarge := by
  obtain ⟨f1, fd1, F1, m1, k1, b1⟩ := G1
  obtain ⟨f2, fd2, F2, m2, k2, b2⟩ := G2
  obtain ⟨f3, fd3, F3, m3, k3, b3⟩ := G3
  refine got0 D sc_large (fun _ _ _ _ _ _ us hl => match us, hl with | [_], _ => rfl) (fun vs H Q E h => ?_) (fun f cdv A outer s0 H vs Q E hr h => ?_)
  · obtain ⟨hd, l, rfl, _⟩ := h
    rfl
  · obtain ⟨hd, l, rfl, hA, k⟩ := h
    have hr2 : Room 2 _ := hr.mono (by decide)
    have hr1 : Room 1 _ := hr.mono (by decide)
    refine ⟨_, pss_cons (ps_set (i := 1) sc_large.nd rfl (.inl rfl) (pe_op op_add pe_int (pe_call F1 hr2 rfl m1 k1 b1 .nil pass0 (pa_cons (pv 0) (pa_cons pe_int pa_nil)))))
      (pss_cons (ps_set (i := 2) sc_large.nd rfl (.inl rfl) (pe_op op_add pe_int (pe_call F1 hr2 rfl m1 k1 b1 .nil pass0 (pa_cons (pv 0) (pa_cons pe_int pa_nil)))))
      (pss_cons (ps_set (i := 3) sc_large.nd rfl (.inl rfl) (pe_call F2 hr rfl m2 k2 b2 .nil pass0 (pa_cons (pv 0) (pa_cons (pv 1) (pa_cons (pv 2) (pa_cons pe_int pa_nil))))))
      (pss_cons (ps_if (pt_cmpR op_eq (pe_call F1 hr2 rfl m1 k1 b1 .nil pass0 (pa_cons (pv 0) (pa_cons pe_int pa_nil))) pe_int (nomark _))
        (pss_cons (ps_set (i := 4) sc_large.nd rfl (.inl rfl) (pe_op op_add pe_int (pe_call F1 hr2 rfl m1 k1 b1 .nil pass0 (pa_cons (pv 0) (pa_cons pe_int pa_nil)))))
        (pss_one (ps_for PassesOwn.never rfl (pi_range1 rfl T.range (pa_cons (pe_op op_mul (pe_op op_mul (pe_op op_mul (pv 1) (pv 2)) pe_int) (pv 1)) pa_nil)) (pg_name (i := 5) sc_large.nd rfl (.inl rfl))
          (pss_one (ps_if (PW.pt (pw_or (pt_cmpR op_gt (pe_op op_mod (pe_callTy call_int1 rfl T.int bt_int (pa_cons (pv 5) pa_nil)) (pv 4)) pe_int (nomark _)) (pw_or1 (pt_cmpR op_eq (pv 4) pe_int (nomark _)))))
            (pss_cons (ps_set (i := 6) sc_large.nd rfl (.inl rfl) (pe_op op_fdiv (pv 5) (pv 1)))
            (pss_one (ps_expr (pe_bm PySem.F.plainAttrs_list PySem.F.slot_list_append PySem.F.type_list_append mt_append (pv 3) (pa_cons
              (pe_tup (pa_cons (pe_op op_fdiv (pv 6) (pe_op op_mul pe_int (pv 2))) (pa_cons (pe_op op_mod (pe_callTy call_int1 rfl T.int bt_int (pa_cons (pe_op op_fdiv (pv 6) pe_int) pa_nil)) (pv 2))
                (pa_cons (pe_op op_mod (pe_callTy call_int1 rfl T.int bt_int (pa_cons (pv 6) pa_nil)) pe_int) (pa_cons (pe_op op_mod (pe_callTy call_int1 rfl T.int bt_int (pa_cons (pv 5) pa_nil)) (pv 1)) pa_nil))))) pa_nil))))) pss_nil)))))
        (pss_one (ps_for PassesOwn.never rfl (pi_range1 rfl T.range (pa_cons (pe_call F1 hr2 rfl m1 k1 b1 .nil pass0 (pa_cons (pv 0) (pa_cons pe_int pa_nil))) pa_nil)) (pg_name (i := 7) sc_large.nd rfl (.inl rfl))
          (pss_cons (ps_set (i := 8) sc_large.nd rfl (.inl rfl) (pe_call F1 hr2 rfl m1 k1 b1 .nil pass0 (pa_cons (pv 0) (pa_cons (pv 1) pa_nil))))
          (pss_one (ps_expr (pe_bm PySem.F.plainAttrs_list PySem.F.slot_list_append PySem.F.type_list_append mt_append (pv 3) (pa_cons
            (pe_tup (pa_cons (pv 8) (pa_cons (pe_call F1 hr2 rfl m1 k1 b1 .nil pass0 (pa_cons (pv 0) (pa_cons (pv 2) pa_nil))) (pa_cons (pe_call F1 hr2 rfl m1 k1 b1 .nil pass0 (pa_cons (pv 0) (pa_cons pe_int pa_nil)))
              (pa_cons (pe_call F1 hr2 rfl m1 k1 b1 .nil pass0 (pa_cons (pv 0) (pa_cons (pv 1) pa_nil))) pa_nil))))) pa_nil))))))))
      (pss_one (ps_ret (pe_tup (pa_cons (pv 1) (pa_cons (pv 2) (pa_cons (pe_call F3 hr1 rfl m3 k3 b3 .nil pass0 (pa_cons (pv 3) pa_nil)) pa_nil))))))))), ?_⟩
    refine ⟨_, rfl, hd, l, 6, rfl, hA, by decide, by decide, fun r1 H1 r10 r11 kb1 hA1 => ⟨_, _, rfl, rfl, ?_⟩⟩
    change tSeq _ _ _ [some (V.ref hd), some (V.int (1 + r1)), none, none, none, none, none, none, none] _
    have s1 : 1 ≤ 1 + r1 := by omega
    have s6 : 1 + r1 ≤ 6 := by omega
    generalize 1 + r1 = s at s1 s6 ⊢
    refine ⟨_, rfl, hd, l, 4, rfl, hA1, by decide, by decide, fun r2 H2 r20 r21 kb2 hA2 => ⟨_, _, rfl, rfl, ?_⟩⟩
    change tSeq _ _ _ [some (V.ref hd), some (V.int s), some (V.int (1 + r2)), none, none, none, none, none, none] _
    have c1 : 1 ≤ 1 + r2 := by omega
    have c4 : 1 + r2 ≤ 4 := by omega
    generalize 1 + r2 = c at c1 c4 ⊢
    have kb2 := kb1.trans kb2
    refine ⟨_, rfl, _, rfl, _, rfl, hd, l, s, c, rfl, hA2, s1, s6, c1, c4, fun H3 R aw0 kb3 hA3 hR d3 st3 len3 ok3 cov3 => ?_⟩
    have R0 : RowsAt hd l R s c H2 H3 24 aw0 := ⟨kb3, hA3, d3, st3, len3, ok3, cov3⟩
    have fin : ∀ {H4 : Hp} {aw : List AW} {n : Nat}, RowsAt hd l R s c H2 H4 n aw → n ≤ 1000 → spWays [V.ref R] H4 (fun v H5 => 3 ≤ sizeLine ∧ ∀ p, H5 p = none → Q (.ref p) (upd H5 p (.tup [.int s, .int c, v]))) E0 := fun {H4 aw n} W hn => by
      refine ⟨R, aw, s, c, rfl, W.d, W.st, Nat.le_trans W.len hn, s1, s6, c1, c4, W.ok, W.cov, fun H5 q kw e5 d5 st5 BO => ⟨by decide, fun p hp => ?_⟩⟩
      exact k _ p q s c kw (((kb2.trans W.kb).same e5).new hp) ((W.hA.same e5).same (Same.upd hp)) upd_same (Same.upd hp _ _ d5) (st5.same (Same.upd hp)) BO
    refine ⟨_, rfl, hd, l, 6, rfl, hA3, by decide, by decide, fun r3 H4 r30 r31 kb4 hA4 => ⟨rfl, _, rfl, ?_⟩⟩
    have R4 : RowsAt hd l R s c H2 H4 24 aw0 := ⟨kb3.trans kb4, hA4, kb4 _ _ d3 (hA2.new hR), hA3.stand kb4 st3, len3, ok3, cov3⟩
    refine ite2 (fun _ => ?_) (fun _ => ?_)
    · refine ⟨_, rfl, hd, l, 10, rfl, hA4, by decide, by decide, fun r5 H5 r50 r51 kb5 hA5 => ⟨_, _, rfl, rfl, ?_⟩⟩
      have R5 : RowsAt hd l R s c H2 H5 24 aw0 := ⟨R4.kb.trans kb5, hA5, kb5 _ _ R4.d (hA2.new hR), hA4.stand kb5 R4.st, len3, ok3, cov3⟩
      obtain ⟨pl1, pl2⟩ := prod_le s1 s6 c1 c4
      refine ⟨_, rfl, _, rfl, _, _, rfl, rfl, .inl ⟨by omega, by omega⟩, _, _, rfl, rfl, .inr ⟨by decide, by decide⟩, _, rfl, _, _, rfl, rfl, .inr ⟨by omega, by omega⟩, _, rfl, by omega, by omega, for_range (lo := 0) (n := (s * c * 3 * s).toNat)
        (fun i σ H6 => ∃ (kv rv : Option V) (aw : List AW), σ = [some (.ref hd), some (.int s), some (.int c), some (.ref R), some (.int (2 + r5)), kv, rv, none, none] ∧ RowsAt hd l R s c H2 H6 (24 + i) aw)
        ⟨none, none, aw0, rfl, R5⟩ ?_ ?_⟩
      · rintro i σ H6 hi ⟨kv, rv, aw, rfl, R6⟩
        have k0 : (0 : Int) ≤ 0 + i := by omega
        have k1' : (0 : Int) + i < s * c * 3 * s := by omega
        have wok := wide_ok s1 c1 k0 k1'
        refine ⟨_, rfl, .inl ⟨_, rfl, _, rfl, _, _, rfl, rfl, (show (0 : Int) < 2 + r5 by omega), _, _, rfl, rfl, _, rfl, ?_⟩⟩
        refine ite2 (fun _ => ifT rfl ?_) (fun _ => ⟨_, rfl, rfl, _, rfl, ite2 (fun _ => ?_) (fun _ => ⟨_, _, aw, rfl, R6.kb, R6.hA, R6.d, R6.st, Nat.le_succ_of_le R6.len, R6.ok, R6.cov⟩)⟩)
        all_goals
          refine ⟨_, rfl, _, rfl, _, _, rfl, rfl, ⟨by omega, by omega⟩, ?_⟩
          refine ⟨_, rfl, .inl ⟨rfl, _, .of R6.d⟩, _, rfl, _, rfl, _, _, rfl, rfl, .inl ⟨by decide, by decide⟩, _, _, rfl, rfl, ⟨by omega, by omega⟩, _, rfl, _, _, rfl, rfl, ⟨by decide, by decide⟩,
            .inl ⟨_, rfl, _, rfl, _, _, rfl, rfl, (show (0 : Int) < c by omega), _, rfl, .inl ⟨_, rfl, _, _, rfl, rfl, (show (0 : Int) < 3 by decide), _, rfl, .inl ⟨_, rfl, _, rfl, _, _, rfl, rfl, (show (0 : Int) < s by omega), (by show 4 ≤ sizeLine; decide), fun t ht => ?_⟩⟩⟩⟩
          have e6 := Same.upd (o := .tup [.int ((0 + i) / s / (3 * c)), .int ((0 + i) / s / 3 % c), .int ((0 + i) / s % 3), .int ((0 + i) % s)]) ht
          exact ⟨R, _, _, rfl, rfl, e6 _ _ R6.d, R6.room (by omega), _, _, _, rfl, R6.put (x := ⟨(0 + i) / s / (3 * c), (0 + i) / s / 3 % c, (0 + i) / s % 3, (0 + i) % s⟩) s1 c1 hA2 hR e6.but (R6.hA.same e6) upd_same wok⟩
      · rintro σ H6 ⟨kv, rv, aw, rfl, R6⟩
        exact ⟨_, rfl, _, rfl, _, rfl, fin R6 (by omega)⟩
    · refine ⟨_, rfl, hd, l, 13, rfl, hA4, by decide, by decide, fun r5 H5 r50 r51 kb5 hA5 => ?_⟩
      have R5 : RowsAt hd l R s c H2 H5 24 aw0 := ⟨R4.kb.trans kb5, hA5, kb5 _ _ R4.d (hA2.new hR), hA4.stand kb5 R4.st, len3, ok3, cov3⟩
      refine ⟨_, rfl, by omega, by omega, for_range (lo := 0) (n := r5.toNat)
        (fun i σ H6 => ∃ (tv sv : Option V) (aw : List AW), σ = [some (.ref hd), some (.int s), some (.int c), some (.ref R), none, none, none, tv, sv] ∧ RowsAt hd l R s c H2 H6 (24 + i) aw)
        ⟨none, none, aw0, rfl, R5⟩ ?_ ?_⟩
      · rintro i σ H6 hi ⟨tv, sv, aw, rfl, R6⟩
        refine ⟨_, rfl, _, rfl, hd, l, s, rfl, R6.hA, by omega, by omega, fun q1 H7 q10 q11 kb7 hA7 => ?_⟩
        have d7 := kb7 _ _ R6.d (hA2.new hR)
        refine ⟨_, rfl, .inl ⟨rfl, _, .of d7⟩, _, rfl, _, rfl, _, rfl, hd, l, c, rfl, hA7, by omega, by omega, fun q2 H8 q20 q21 kb8 hA8 => ?_⟩
        refine ⟨_, rfl, hd, l, 3, rfl, hA8, by decide, by decide, fun q3 H9 q30 q31 kb9 hA9 => ?_⟩
        refine ⟨_, rfl, _, rfl, hd, l, s, rfl, hA9, by omega, by omega, fun q4 H10 q40 q41 kb10 hA10 => ⟨(by show 4 ≤ sizeLine; decide), fun t ht => ?_⟩⟩
        have kb' := ((kb7.trans kb8).trans kb9).trans kb10
        have e6 := Same.upd (o := .tup [.int q1, .int q2, .int q3, .int q4]) ht
        exact ⟨R, _, _, rfl, rfl, e6 _ _ (kb' _ _ R6.d (hA2.new hR)), R6.room (by omega), _, _, _, rfl, R6.put (x := ⟨q1, q2, q3, q4⟩) s1 c1 hA2 hR (kb'.same e6) (hA10.same e6) upd_same ⟨⟨q10, q11⟩, ⟨q20, q21⟩, ⟨q30, q31⟩, q40, q41⟩⟩
      · rintro σ H6 ⟨tv, sv, aw, rfl, R6⟩
        exact ⟨_, rfl, _, rfl, _, rfl, fin R6 (by omega)⟩
end
end K3
/-! _law_entries, _law_told_book -/
namespace K3
open PySem PySem.Spec PyProof.Rows L2
theorem HandAt.standE {hd l : Addr} {H H' : Hp} (h : HandAt hd l H) (k : KeepBut hd H H') {ae : List AE} (st : StandE H ae) : StandE H' ae := fun p hp => h.keep k (st p hp)
/-- the entries drawn so far -/
structure EntsAt (hd l R : Addr) (c : Int) (H H2 : Hp) (n : Nat) (ae : List AE) : Prop where
  kb : KeepBut hd H H2
  hA : HandAt hd l H2
  d : H2 R = some (.lst (adrE ae))
  st : StandE H2 ae
  len : ae.length ≤ n
  ok : ∀ x ∈ ents ae, x.ok c
theorem EntsAt.put {hd l R : Addr} {c : Int} {H H2 H3 : Hp} {n : Nat} {ae : List AE} (h : EntsAt hd l R c H H2 n ae) (hA : HandAt hd l H) (hR : H R = none) (kb : KeepBut hd H2 H3) (hA3 : HandAt hd l H3) {t : Addr} {x : Ent} (tp : Tup H3 t x.row) (ok : x.ok c) :
    EntsAt hd l R c H (upd H3 R (.lst (adrE ae ++ [V.ref t]))) (n + 1) (ae ++ [(t, x)]) := by
  have d3 := kb _ _ h.d (hA.new hR)
  refine ⟨(h.kb.trans kb).set hR, hA.set hR hA3, by rw [upd_same, adrE_snoc], fun a ha => ?_, by rw [List.length_append]; have := h.len; show _ + 1 ≤ _; omega, fun y hy => ?_⟩
  · have st3 : StandE H3 (ae ++ [(t, x)]) := StandE.snoc (h.hA.standE kb h.st) tp
    have t1 := st3 a ha
    show upd H3 R _ a.1 = _
    rw [upd_ne (ne_of t1 d3 (fun z => by cases z))]
    exact t1
  · rw [ents_snoc] at hy
    rcases List.mem_append.mp hy with hy | hy
    · exact h.ok y hy
    · rw [List.mem_singleton] at hy
      subst hy
      exact ok
theorem EntsAt.room {hd l R : Addr} {c : Int} {H H2 : Hp} {n : Nat} {ae : List AE} (h : EntsAt hd l R c H H2 n ae) (hn : n < 1000) : (adrE ae).length < sizeLine := by
  have := h.len
  rw [adrE_len]
  exact small1000 (by omega)
def spEntries : Sp := fun vs H Q _ => ∃ (hd l : Addr) (c : Int), vs = [.ref hd, .int c, .int 40] ∧ HandAt hd l H ∧ 1 ≤ c ∧ c ≤ 4 ∧
  ∀ (H' : Hp) (R : Addr) (ae : List AE), EntsAt hd l R c H H' 40 ae → H R = none → Q (.ref R) H'
theorem sc_entries : FnScope ["_law_hand_here", "_law_calls", "_law_most", "_law_rows", "_law_turn"] ["_law_hand_here", "_law_calls", "_law_most"] (defScope (top 35)) := ⟨rfl, rfl, rfl, by decide +kernel, rfl, by decide +kernel, by decide +kernel⟩
section
variable {P : Program} {w : World} {K : PySem.W.Frag} {mg : Str → Option Value} {base : Heap}
theorem got_entries (T : Txt K mg) (D : DefAt K mg "_law_entries" (top 35)) (G1 : Got P w K mg base CX0 2 "_law_draw" ["_law_hand_here", "_law_many"] spDraw) : Got P w K mg base CX0 3 "_law_entries" ["_law_hand_here", "_law_calls", "_law_most"] spEntries := by
  obtain ⟨f1, fd1, F1, m1, k1, b1⟩ := G1
  refine got0 D sc_entries (fun _ _ _ _ _ _ us hl => match us, hl with | [_, _, _], _ => rfl) (fun vs H Q E h => ?_) (fun f cdv A outer s0 H vs Q E hr h => ?_)
  · obtain ⟨hd, l, c, rfl, _⟩ := h
    rfl
  · obtain ⟨hd, l, c, rfl, hA, c1, c4, k⟩ := h
    refine ⟨_, pss_cons (ps_set (i := 3) sc_entries.nd rfl (.inl rfl) (pe_lst pa_nil))
      (pss_cons (ps_for PassesOwn.never rfl (pi_range1 rfl T.range (pa_cons (pe_call F1 hr rfl m1 k1 b1 .nil pass0 (pa_cons (pv 0) (pa_cons (pe_op op_add (pv 2) pe_int) pa_nil))) pa_nil)) (pg_name (i := 4) sc_entries.nd rfl (.inl rfl))
        (pss_one (ps_expr (pe_bm PySem.F.plainAttrs_list PySem.F.slot_list_append PySem.F.type_list_append mt_append (pv 3) (pa_cons
          (pe_tup (pa_cons (pe_call F1 hr rfl m1 k1 b1 .nil pass0 (pa_cons (pv 0) (pa_cons pe_int pa_nil))) (pa_cons (pe_call F1 hr rfl m1 k1 b1 .nil pass0 (pa_cons (pv 0) (pa_cons (pv 1) pa_nil))) (pa_cons (pe_call F1 hr rfl m1 k1 b1 .nil pass0 (pa_cons (pv 0) (pa_cons pe_int pa_nil))) pa_nil)))) pa_nil)))))
      (pss_one (ps_ret (pv 3)))), ?_⟩
    refine ⟨(by show 0 ≤ sizeLine; decide), fun R hR => ?_⟩
    have hA0 : HandAt hd l (upd H R (.lst [])) := hA.same (Same.upd hR)
    have E0 : EntsAt hd l R c H (upd H R (.lst [])) 0 [] := ⟨(Same.upd hR).but, hA0, upd_same, fun p hp => (by cases hp), Nat.le_refl _, fun p hp => (by cases hp)⟩
    change tSeq _ _ _ _ (upd H R (.lst []))
    generalize upd H R (.lst []) = H0 at hA0 E0 ⊢
    refine ⟨_, rfl, _, rfl, _, _, rfl, rfl, hd, l, 40 + 1, rfl, hA0, by decide, by decide, fun r H1 r0 r1 kb1 hA1 => ?_⟩
    have E1 : EntsAt hd l R c H H1 0 [] := ⟨E0.kb.trans kb1, hA1, kb1 _ _ E0.d (hA.new hR), fun p hp => (by cases hp), Nat.le_refl _, fun p hp => (by cases hp)⟩
    refine ⟨_, rfl, by omega, by omega, for_range (lo := 0) (n := r.toNat) (fun i σ H6 => ∃ (tv : Option V) (ae : List AE), σ = [some (.ref hd), some (.int c), some (.int 40), some (.ref R), tv] ∧ EntsAt hd l R c H H6 i ae) ⟨none, [], rfl, E1⟩ ?_ ?_⟩
    · rintro i σ H6 hi ⟨tv, ae, rfl, R6⟩
      refine ⟨_, rfl, .inl ⟨rfl, _, .of R6.d⟩, _, rfl, hd, l, 10, rfl, R6.hA, by decide, by decide, fun q2 H8 q20 q21 kb8 hA8 => ?_⟩
      refine ⟨_, rfl, _, rfl, hd, l, c, rfl, hA8, by omega, by omega, fun q3 H9 q30 q31 kb9 hA9 => ?_⟩
      refine ⟨_, rfl, hd, l, 3, rfl, hA9, by decide, by decide, fun q4 H10 q40 q41 kb10 hA10 => ⟨(by show 3 ≤ sizeLine; decide), fun t ht => ?_⟩⟩
      have kb' := (kb8.trans kb9).trans kb10
      have e6 := Same.upd (o := .tup [.int q2, .int q3, .int q4]) ht
      exact ⟨R, _, _, rfl, rfl, e6 _ _ (kb' _ _ R6.d (hA.new hR)), R6.room (by omega), _, _, rfl, R6.put (x := ⟨q2, q3, q4⟩) hA hR (kb'.same e6) (hA10.same e6) upd_same ⟨⟨q20, by show q2 ≤ 9; omega⟩, ⟨q30, q31⟩, q40, q41⟩⟩
    · rintro σ H6 ⟨tv, ae, rfl, R6⟩
      exact ⟨_, rfl, k H6 R ae ⟨R6.kb, R6.hA, R6.d, R6.st, Nat.le_trans R6.len (by omega), R6.ok⟩ hR⟩
end
/-! ### _law_told_book -/
def spTold : Sp := fun vs H Q _ => ∃ (s c : Int) (q : Addr) (kw : List AW), vs = [.int s, .int c, .ref q] ∧ H q = some (.tup (adr kw)) ∧ Stand H kw ∧ BookOk s c (wys kw) ∧ ∀ H', Same H H' → Q (.str (bookT s c (wys kw))) H'
theorem sc_told : FnScope ["_law_states", "_law_calls", "_law_ways_here", "_law_way"] ["_law_states", "_law_calls", "_law_ways_here"] (defScope (top 36)) := ⟨rfl, rfl, rfl, by decide +kernel, rfl, by decide +kernel, by decide +kernel⟩
def tWayE (K : PySem.W.Frag) : TE := fun σ H Q => tJs [tFmt (tOp (rIxT K) (tVar 3) (tC (.int 0))), tC (V.str (Str.ofString " ")), tFmt (tOp (rIxT K) (tVar 3) (tC (.int 1))), tC (V.str (Str.ofString " ")), tFmt (tOp (rIxT K) (tVar 3) (tC (.int 2))), tC (V.str (Str.ofString " ")), tFmt (tOp (rIxT K) (tVar 3) (tC (.int 3)))] Str.empty σ H fun out H1 => Q (V.str out) H1
section
variable {P : Program} {w : World} {K : PySem.W.Frag} {mg : Str → Option Value} {base : Heap}
theorem got_told (T : Txt K mg) (D : DefAt K mg "_law_told_book" (top 36)) : Got P w K mg base CX0 1 "_law_told_book" ["_law_states", "_law_calls", "_law_ways_here"] spTold := by
  refine got0 D sc_told (fun _ _ _ _ _ _ us hl => match us, hl with | [_, _, _], _ => rfl) (fun vs H Q E h => ?_) (fun f cdv A outer s0 H vs Q E hr h => ?_)
  · obtain ⟨s, c, q, kw, rfl, _⟩ := h
    rfl
  · obtain ⟨s, c, q, kw, rfl, hq, hst, B, k⟩ := h
    have s1 := B.s1
    have s6 := B.s6
    have c1 := B.c1
    have c4 := B.c4
    refine ⟨_, pss_one (ps_ret (pe_join pe_str (pe_op op_cat (pe_lst (pa_cons (pe_joined (.cons pe_str (.cons (pe_fmt (pv 0)) (.cons pe_str (.cons (pe_fmt (pv 1)) .nil))))) pa_nil))
      (pe_lc (own := [("_law_way", 3)]) (g := gName 3) (tt := tYes) (te := tWayE K) rfl sc_told.nd (pi_tup (pv 2)) (blkOk_by (own := [("_law_way", 3)]) (N := ["_law_states", "_law_calls", "_law_ways_here", "_law_way"]) (sc := defScope (top 36)) (by decide +kernel))
        (fun _ _ _ _ _ => pg_name (i := 3) sc_told.nd rfl (.inl rfl)) (fun _ _ _ _ _ => pts_nil)
        (fun _ _ _ _ _ => pe_joined (.cons (pe_fmt (pe_ix ix_tup (pv 3) pe_int (fun _ _ => rfl))) (.cons pe_str (.cons (pe_fmt (pe_ix ix_tup (pv 3) pe_int (fun _ _ => rfl))) (.cons pe_str (.cons (pe_fmt (pe_ix ix_tup (pv 3) pe_int (fun _ _ => rfl))) (.cons pe_str (.cons (pe_fmt (pe_ix ix_tup (pv 3) pe_int (fun _ _ => rfl))) .nil)))))))))))), ?_⟩
    refine ⟨⟨_, rfl⟩, ?_⟩
    refine js_str (a := []) t_bookb (Nat.le_of_ble_eq_true rfl) ⟨_, rfl, js_fig ⟨by omega, by omega⟩ (Nat.le_of_ble_eq_true rfl) (js_str t_blank (Nat.le_of_ble_eq_true rfl) ⟨_, rfl, js_fig ⟨by omega, by omega⟩ (Nat.le_of_ble_eq_true rfl) ?_⟩)⟩
    refine ⟨(by show 1 ≤ sizeLine; decide), fun L hL => ?_⟩
    have e1 : Same H (upd H L (.lst [.str (sizeT s c)])) := Same.upd hL
    have d1 : (upd H L (.lst [.str (sizeT s c)])) L = some (.lst [.str (sizeT s c)]) := upd_same
    refine ⟨_, rfl, q, rfl, ⟨_, .of (e1 _ _ hq)⟩, fun D hD => lc_tup (K := K) (a := q) (xs := adr kw) (fun i H2 => Same (upd H L (.lst [.str (sizeT s c)])) H2 ∧ H2 D = some (.lst ((((wys kw).take i).map Way.txt).map V.str))) ⟨Same.upd hD, upd_same⟩ (fun i H2 _ h2 => .of (h2.1 _ _ (e1 _ _ hq))) ?_ ?_⟩
    · rintro i x H2 hi ⟨e2, d2⟩
      obtain ⟨r, hr, rfl⟩ := adr_at hi
      obtain ⟨g1, g2, g3, g4⟩ := B.fig r.2 (List.mem_map.mpr ⟨r, List.mem_of_getElem? hr, rfl⟩)
      have tp := ((hst.at hr).same (e1.trans e2)).t (K := K)
      refine ⟨rfl, ?_⟩
      dsimp only [tYes]
      refine iteT ⟨_, rfl, r.1, _, 0, .int r.2.st, rfl, rfl, tp, rfl, js_fig (a := []) g1 (Nat.le_of_ble_eq_true rfl) (js_str t_blank (Nat.le_of_ble_eq_true rfl) ⟨_, rfl, r.1, _, 1, .int r.2.ca, rfl, rfl, tp, rfl, js_fig g2 (Nat.le_of_ble_eq_true rfl) (js_str t_blank (Nat.le_of_ble_eq_true rfl)
        ⟨_, rfl, r.1, _, 2, .int r.2.an, rfl, rfl, tp, rfl, js_fig g3 (Nat.le_of_ble_eq_true rfl) (js_str t_blank (Nat.le_of_ble_eq_true rfl) ⟨_, rfl, r.1, _, 3, .int r.2.nx, rfl, rfl, tp, rfl, js_fig g4 (Nat.le_of_ble_eq_true rfl) ?_⟩)⟩)⟩)⟩
      refine ⟨_, d2, ?_, e2.set hD, ?_⟩
      · have := lt_of_get hr
        have := B.len
        rw [wys_len] at this
        rw [List.length_map, List.length_map, List.length_take]
        exact small1000 (by omega)
      · rw [upd_same, take_more (show (wys kw)[i]? = some r.2 by rw [List.getElem?_map, hr]; rfl), List.map_append, List.map_append]
        rfl
    · rintro H2 ⟨e2, d2⟩
      rw [adr_len, ← wys_len kw, List.take_length] at d2
      refine ⟨L, D, _, _, rfl, rfl, e2 _ _ d1, d2, ?_, fun p hp => ?_⟩
      · have := B.len
        rw [List.length_map, List.length_map]
        exact Nat.le_of_lt (small1000 (by show 1 + _ ≤ 1000; omega))
      · refine ⟨_, p, sizeT s c :: (wys kw).map Way.txt, rfl, rfl, .inl (.of upd_same), ?_, ?_⟩
        · rw [t_line]
          exact join_fit 10 (book_wt B.len)
        · rw [t_line]
          exact k _ ((e1.trans e2).new hp)
end
end K3
/-! _law_sizes, _law_lines -/
namespace K3
open PySem PySem.Spec PyProof.Rows L2
/-! ### _law_sizes -/
def spSz : Sp := fun vs H Q _ => ∃ z : Str, vs = [.str z] ∧ z.length ≤ 1000000 ∧ (sizesOf z = none → Q .non H) ∧ ∀ s c, sizesOf z = some (s, c) → ∀ p H', Same H H' → H' p = some (.tup [.int s, .int c]) → Q (.ref p) H'
theorem sc_sz : FnScope ["_law_line", "_law_states", "_law_calls"] ["_law_line"] (defScope (top 37)) := ⟨rfl, rfl, rfl, by decide +kernel, rfl, by decide +kernel, by decide +kernel⟩
section
variable {P : Program} {w : World} {K : PySem.W.Frag} {mg : Str → Option Value} {base : Heap}
theorem got_sz (T : Txt K mg) (D : DefAt K mg "_law_sizes" (top 37)) : Got P w K mg base CX0 1 "_law_sizes" ["_law_line"] spSz := by
  refine got0 D sc_sz (fun _ _ _ _ _ _ us hl => match us, hl with | [_], _ => rfl) (fun vs H Q E h => ?_) (fun f cdv A outer s0 H vs Q E hr h => ?_)
  · obtain ⟨z, rfl, _⟩ := h
    rfl
  · obtain ⟨z, rfl, hz, kN, kS⟩ := h
    refine ⟨_, pss_cons (ps_for PassesOwn.never rfl (pi_range2 rfl T.range (pa_cons pe_int (pa_cons pe_int pa_nil))) (pg_name (i := 1) sc_sz.nd rfl (.inl rfl))
        (pss_one (ps_for PassesOwn.never rfl (pi_range2 rfl T.range (pa_cons pe_int (pa_cons pe_int pa_nil))) (pg_name (i := 2) sc_sz.nd rfl (.inl rfl))
          (pss_one (ps_if (pt_cmpR op_eq (pv 0) (pe_joined (.cons pe_str (.cons (pe_fmt (pv 1)) (.cons pe_str (.cons (pe_fmt (pv 2)) .nil))))) (nomark _)) (pss_one (ps_ret (pe_tup (pa_cons (pv 1) (pa_cons (pv 2) pa_nil))))) pss_nil)))))
      (pss_one (ps_ret pe_non)), ?_⟩
    refine ⟨1, 7, rfl, ⟨by decide, by decide, by decide, by decide⟩, for_range (lo := 1) (n := 6) (fun i σ H2 => H2 = H ∧ ∃ sv cv, σ = [some (.str z), sv, cv] ∧ ∀ s c : Int, 1 ≤ s → s < 1 + i → 1 ≤ c → c ≤ 4 → z ≠ sizeT s c) ⟨rfl, none, none, rfl, fun s c h1 h2 => by omega⟩ ?_ ?_⟩
    · rintro i σ H2 hi ⟨rfl, sv, cv, rfl, hno⟩
      refine ⟨1, 5, rfl, ⟨by decide, by decide, by decide, by decide⟩, for_range (lo := 1) (n := 4) (fun j σ H3 => H3 = H2 ∧ ∃ cv, σ = [some (.str z), some (.int (1 + i)), cv] ∧ ∀ c : Int, 1 ≤ c → c < 1 + j → z ≠ sizeT (1 + i) c) ⟨rfl, cv, rfl, fun c h1 h2 => by omega⟩ ?_ ?_⟩
      · rintro j σ H3 hj ⟨rfl, cv, rfl, hno2⟩
        refine ⟨_, rfl, js_str (a := []) t_bookb (Nat.le_of_ble_eq_true rfl) ⟨_, rfl, js_fig ⟨by omega, by omega⟩ (Nat.le_of_ble_eq_true rfl) (js_str t_blank (Nat.le_of_ble_eq_true rfl) ⟨_, rfl, js_fig ⟨by omega, by omega⟩ (Nat.le_of_ble_eq_true rfl) ?_⟩)⟩⟩
        refine ⟨rfl, _, rfl, ?_⟩
        by_cases h : z = sizeT (1 + i) (1 + j)
        · refine ifT (decide_eq_true (by rw [h]; rfl)) ⟨_, rfl, _, rfl, (by show 2 ≤ sizeLine; decide), fun p hp => ?_⟩
          exact kS (1 + i) (1 + j) (sizes_iff.mpr ⟨⟨⟨by omega, by omega⟩, by omega, by omega⟩, h⟩) p _ (Same.upd hp) upd_same
        · refine ifF (decide_eq_false (fun q => h (by injection q))) ⟨rfl, _, rfl, fun c h1 h2 => ?_⟩
          by_cases e : c = 1 + j
          · rw [e]
            exact h
          · exact hno2 c h1 (by omega)
      · rintro σ H3 ⟨rfl, cv, rfl, hno2⟩
        refine ⟨rfl, _, _, rfl, fun s c h1 h2 h3 h4 => ?_⟩
        by_cases e : s = 1 + i
        · rw [e]
          exact hno2 c h3 (by omega)
        · exact hno s c h1 (by omega) h3 h4
    · rintro σ H2 ⟨rfl, sv, cv, rfl, hno⟩
      refine kN ?_
      cases e : sizesOf z with
      | none => rfl
      | some p =>
        obtain ⟨s, c⟩ := p
        obtain ⟨⟨⟨h1, h2⟩, h3, h4⟩, h5⟩ := sizes_iff.mp e
        exact absurd h5 (hno s c h1 (by omega) h3 h4)
end
/-! ### a dict of texts -/
structure TextsAt {α : Type} (txt : α → Str) (row : α → List Int) (H : Hp) (D : Addr) (n : Nat) (ws : List α) : Prop where
  ex : ∃ kvs : List (Key × V), H D = some (.dK kvs) ∧ kvs.length ≤ n ∧ (∀ k v, valV kvs k = some v → ∃ x ∈ ws, ∃ a, k = .inr (txt x) ∧ v = .ref a ∧ Tup H a (row x)) ∧ ∀ x ∈ ws, ∃ v, valV kvs (.inr (txt x)) = some v
theorem TextsAt.nil {α : Type} {txt : α → Str} {row : α → List Int} {H : Hp} {D : Addr} : TextsAt txt row (upd H D (.dK [])) D 0 [] :=
  ⟨[], upd_same, Nat.le_refl _, fun k v h => by (cases h), fun x hx => by (cases hx)⟩
theorem TextsAt.same {α : Type} {txt : α → Str} {row : α → List Int} {H H' : Hp} {D : Addr} {n : Nat} {ws : List α} (s : Same H H') (h : TextsAt txt row H D n ws) : TextsAt txt row H' D n ws := by
  obtain ⟨kvs, h1, h2, h3, h4⟩ := h.ex
  exact ⟨kvs, s _ _ h1, h2, fun k v e => let ⟨x, hx, a, e1, e2, e3⟩ := h3 k v e; ⟨x, hx, a, e1, e2, e3.same s⟩, h4⟩
theorem TextsAt.put {α : Type} {txt : α → Str} {row : α → List Int} {H : Hp} {D t : Addr} {n : Nat} {ws : List α} (h : TextsAt txt row H D n ws) (hn : n < 1000) (x : α) (ht : Tup H t (row x)) :
    ∃ H', DPut H D (.str (txt x)) (.ref t) H' ∧ TextsAt txt row H' D (n + 1) (ws ++ [x]) ∧ ∃ o, H' = upd H D o := by
  obtain ⟨kvs, h1, h2, h3, h4⟩ := h.ex
  have keep : ∀ {a : Addr} {r : List Int}, Tup H a r → Tup (upd H D (.dK (putK kvs (.inr (txt x)) (.ref t)))) a r := fun {a r} q => by
    show upd H D _ a = _
    rw [upd_ne (ne_of q h1 (fun z => by cases z))]
    exact q
  refine ⟨_, DPut.k (k := .inr (txt x)) h1 (small1000 (by omega)), ⟨_, upd_same, ?_, fun k v e => ?_, fun y hy => ?_⟩, _, rfl⟩
  · have := length_putK kvs (.inr (txt x)) (V.ref t)
    omega
  · rw [valV_put] at e
    by_cases q : k = .inr (txt x)
    · rw [if_pos q] at e
      exact ⟨x, List.mem_append_right _ (List.mem_singleton.mpr rfl), t, q, (Option.some.inj e).symm, keep ht⟩
    · rw [if_neg q] at e
      obtain ⟨y, hy, a, e1, e2, e3⟩ := h3 k v e
      exact ⟨y, List.mem_append_left _ hy, a, e1, e2, keep e3⟩
  · rw [valV_put]
    by_cases q : (Sum.inr (txt y) : Key) = .inr (txt x)
    · exact ⟨_, if_pos q⟩
    · rw [if_neg q]
      rcases List.mem_append.mp hy with hy | hy
      · exact h4 y hy
      · rw [List.mem_singleton] at hy
        exact absurd (by rw [hy]) q
/-! ### _law_lines -/
def LinesOf (s c : Int) (H : Hp) (D : Addr) : Prop := ∃ (n : Nat) (ws : List Way), TextsAt Way.txt Way.row H D n ws ∧ (∀ x ∈ ws, x.ok s c) ∧ ∀ x : Way, x.ok s c → x ∈ ws
def spLines : Sp := fun vs H Q _ => ∃ s c : Int, vs = [.int s, .int c] ∧ 1 ≤ s ∧ s ≤ 6 ∧ 1 ≤ c ∧ c ≤ 4 ∧ ∀ (H' : Hp) (D : Addr), Same H H' → LinesOf s c H' D → Q (.ref D) H'
theorem sc_lines : FnScope ["_law_states", "_law_calls", "_law_lines_here", "_law_state", "_law_call", "_law_answer", "_law_after"] ["_law_states", "_law_calls"] (defScope (top 38)) := ⟨rfl, rfl, rfl, by decide +kernel, rfl, by decide +kernel, by decide +kernel⟩
/-- what the four loops have written -/
structure LinesAt (s c : Int) (D : Addr) (i j k m : Nat) (H : Hp) (ws : List Way) : Prop where
  tx : TextsAt Way.txt Way.row H D (((i * 4 + j) * 3 + k) * 6 + m) ws
  ok : ∀ x ∈ ws, x.ok s c
  all : ∀ x : Way, x.ok s c → (x.st < i ∨ (x.st = i ∧ (x.ca < j ∨ (x.ca = j ∧ (x.an < k ∨ (x.an = k ∧ x.nx < m)))))) → x ∈ ws
theorem LinesAt.up {s c : Int} {D : Addr} {i j k m i' j' k' m' : Nat} {H : Hp} {ws : List Way} (h : LinesAt s c D i j k m H ws) (hn : ((i * 4 + j) * 3 + k) * 6 + m ≤ ((i' * 4 + j') * 3 + k') * 6 + m')
    (hi : ∀ x : Way, x.ok s c → (x.st < i' ∨ (x.st = i' ∧ (x.ca < j' ∨ (x.ca = j' ∧ (x.an < k' ∨ (x.an = k' ∧ x.nx < m')))))) → (x.st < i ∨ (x.st = i ∧ (x.ca < j ∨ (x.ca = j ∧ (x.an < k ∨ (x.an = k ∧ x.nx < m))))))) : LinesAt s c D i' j' k' m' H ws := by
  obtain ⟨kvs, h1, h2, h3, h4⟩ := h.tx.ex
  exact ⟨⟨kvs, h1, Nat.le_trans h2 hn, h3, h4⟩, h.ok, fun x ox hx => h.all x ox (hi x ox hx)⟩
section
variable {P : Program} {w : World} {K : PySem.W.Frag} {mg : Str → Option Value} {base : Heap}
theorem got_lines (T : Txt K mg) (D : DefAt K mg "_law_lines" (top 38)) : Got P w K mg base CX0 1 "_law_lines" ["_law_states", "_law_calls"] spLines := by
  refine got0 D sc_lines (fun _ _ _ _ _ _ us hl => match us, hl with | [_, _], _ => rfl) (fun vs H Q E h => ?_) (fun f cdv A outer s0 H vs Q E hr h => ?_)
  · obtain ⟨s, c, rfl, _⟩ := h
    rfl
  · obtain ⟨s, c, rfl, s1, s6, c1, c4, kQ⟩ := h
    refine ⟨_, pss_cons (ps_set (i := 2) sc_lines.nd rfl (.inl rfl) pe_dnewK)
      (pss_cons (ps_for PassesOwn.never rfl (pi_range1 rfl T.range (pa_cons (pv 0) pa_nil)) (pg_name (i := 3) sc_lines.nd rfl (.inl rfl))
        (pss_one (ps_for PassesOwn.never rfl (pi_range1 rfl T.range (pa_cons (pv 1) pa_nil)) (pg_name (i := 4) sc_lines.nd rfl (.inl rfl))
          (pss_one (ps_for PassesOwn.never rfl (pi_range1 rfl T.range (pa_cons pe_int pa_nil)) (pg_name (i := 5) sc_lines.nd rfl (.inl rfl))
            (pss_one (ps_for PassesOwn.never rfl (pi_range1 rfl T.range (pa_cons (pv 0) pa_nil)) (pg_name (i := 6) sc_lines.nd rfl (.inl rfl))
              (pss_one (ps_dput (hu_of hr) (pv 2) (pe_joined (.cons (pe_fmt (pv 3)) (.cons pe_str (.cons (pe_fmt (pv 4)) (.cons pe_str (.cons (pe_fmt (pv 5)) (.cons pe_str (.cons (pe_fmt (pv 6)) .nil))))))))
                (pe_tup (pa_cons (pv 3) (pa_cons (pv 4) (pa_cons (pv 5) (pa_cons (pv 6) pa_nil))))) rfl)))))))))
      (pss_one (ps_ret (pv 2)))), ?_⟩
    refine fun Dd hD => ?_
    have L0 : LinesAt s c Dd 0 0 0 0 (upd H Dd (.dK [])) [] := ⟨TextsAt.nil, fun x hx => (by cases hx), fun x ox hx => by obtain ⟨o1, o2, o3, o4⟩ := ox; omega⟩
    have e0 : Same H (upd H Dd (.dK [])) := Same.upd hD
    change tSeq _ _ _ _ (upd H Dd (.dK []))
    generalize upd H Dd (.dK []) = H0 at L0 e0 ⊢
    refine ⟨_, rfl, _, rfl, by omega, by omega, for_range (lo := 0) (n := s.toNat) (fun i σ H2 => Same H H2 ∧ ∃ a b d e ws, σ = [some (.int s), some (.int c), some (.ref Dd), a, b, d, e] ∧ LinesAt s c Dd i 0 0 0 H2 ws) ⟨e0, none, none, none, none, [], rfl, L0⟩ ?_ ?_⟩
    · rintro i σ H2 hi ⟨e2, a, b, d, e, ws, rfl, L2⟩
      refine ⟨_, rfl, _, rfl, by omega, by omega, for_range (lo := 0) (n := c.toNat) (fun j σ H3 => Same H H3 ∧ ∃ b d e ws, σ = [some (.int s), some (.int c), some (.ref Dd), some (.int (0 + i)), b, d, e] ∧ LinesAt s c Dd i j 0 0 H3 ws) ⟨e2, b, d, e, ws, rfl, L2⟩ ?_ ?_⟩
      · rintro j σ H3 hj ⟨e3, b, d, e, ws, rfl, L3⟩
        refine ⟨_, rfl, by decide, by decide, for_range (lo := 0) (n := 3) (fun k σ H4 => Same H H4 ∧ ∃ d e ws, σ = [some (.int s), some (.int c), some (.ref Dd), some (.int (0 + i)), some (.int (0 + j)), d, e] ∧ LinesAt s c Dd i j k 0 H4 ws) ⟨e3, d, e, ws, rfl, L3⟩ ?_ ?_⟩
        · rintro k σ H4 hk ⟨e4, d, e, ws, rfl, L4⟩
          refine ⟨_, rfl, _, rfl, by omega, by omega, for_range (lo := 0) (n := s.toNat) (fun m σ H5 => Same H H5 ∧ ∃ e ws, σ = [some (.int s), some (.int c), some (.ref Dd), some (.int (0 + i)), some (.int (0 + j)), some (.int (0 + k)), e] ∧ LinesAt s c Dd i j k m H5 ws) ⟨e4, e, ws, rfl, L4⟩ ?_ ?_⟩
          · rintro m σ H5 hm ⟨e5, e, ws, rfl, L5⟩
            refine ⟨_, rfl, _, rfl, _, rfl, _, rfl, (by show 4 ≤ sizeLine; decide), fun t ht => ⟨_, rfl, _, rfl, js_fig (a := []) ⟨by omega, by omega⟩ (Nat.le_of_ble_eq_true rfl) (js_str t_blank (Nat.le_of_ble_eq_true rfl) ⟨_, rfl, js_fig ⟨by omega, by omega⟩ (Nat.le_of_ble_eq_true rfl) (js_str t_blank (Nat.le_of_ble_eq_true rfl)
              ⟨_, rfl, js_fig ⟨by omega, by omega⟩ (Nat.le_of_ble_eq_true rfl) (js_str t_blank (Nat.le_of_ble_eq_true rfl) ⟨_, rfl, js_fig ⟨by omega, by omega⟩ (Nat.le_of_ble_eq_true rfl) ?_⟩)⟩)⟩)⟩⟩
            have e6 : Same H5 (upd H5 t (.tup [.int (0 + i), .int (0 + j), .int (0 + k), .int (0 + m)])) := Same.upd ht
            obtain ⟨H', dp, tx, o, rfl⟩ := (L5.tx.same e6).put (t := t) (by omega) ⟨0 + i, 0 + j, 0 + k, 0 + m⟩ upd_same
            refine ⟨Dd, _, rfl, dp, (e5.trans e6).set hD, _, _, rfl, tx, fun x hx => ?_, fun x ox hx => ?_⟩
            · rcases List.mem_append.mp hx with hx | hx
              · exact L5.ok x hx
              · rw [List.mem_singleton] at hx
                subst hx
                exact ⟨⟨by show (0 : Int) ≤ 0 + i; omega, by show (0 : Int) + i < s; omega⟩, ⟨by show (0 : Int) ≤ 0 + j; omega, by show (0 : Int) + j < c; omega⟩, ⟨by show (0 : Int) ≤ 0 + k; omega, by show (0 : Int) + k < 3; omega⟩, by show (0 : Int) ≤ 0 + m; omega, by show (0 : Int) + m < s; omega⟩
            · by_cases q : x.st = i ∧ x.ca = j ∧ x.an = k ∧ x.nx = m
              · refine List.mem_append_right _ (List.mem_singleton.mpr ?_)
                obtain ⟨x1, x2, x3, x4⟩ := x
                dsimp only at q
                obtain ⟨rfl, rfl, rfl, rfl⟩ := q
                rw [Int.zero_add, Int.zero_add, Int.zero_add, Int.zero_add]
              · exact List.mem_append_left _ (L5.all x ox (by omega))
          · rintro σ H5 ⟨e5, e, ws, rfl, L5⟩
            exact ⟨e5, _, _, _, rfl, L5.up (by omega) (fun x ox hx => by obtain ⟨o1, o2, o3, o4⟩ := ox; omega)⟩
        · rintro σ H4 ⟨e4, d, e, ws, rfl, L4⟩
          exact ⟨e4, _, _, _, _, rfl, L4.up (by omega) (fun x ox hx => by obtain ⟨o1, o2, o3, o4⟩ := ox; omega)⟩
      · rintro σ H3 ⟨e3, b, d, e, ws, rfl, L3⟩
        exact ⟨e3, _, _, _, _, _, rfl, L3.up (by omega) (fun x ox hx => by obtain ⟨o1, o2, o3, o4⟩ := ox; omega)⟩
    · rintro σ H2 ⟨e2, a, b, d, e, ws, rfl, L2⟩
      exact ⟨_, rfl, kQ H2 Dd e2 ⟨_, ws, L2.tx, L2.ok, fun x ox => L2.all x ox (by obtain ⟨o1, o2, o3, o4⟩ := ox; omega)⟩⟩
end
end K3
/-! _law_due_book -/
namespace K3
open PySem PySem.Spec PyProof.Rows L2
theorem hold_row {H : Hp} {a : Addr} {r : List Int} (t : Tup H a r) (h : r.length ≤ 1000) : Hold 2 H (dRow r) (.ref a) := by
  refine ⟨a, r.map V.int, rfl, t, by rw [List.length_map, List.length_map], by rw [List.length_map]; exact h, fun i x e hx he => ?_⟩
  rw [List.getElem?_map] at hx he
  cases q : r[i]? with
  | none => rw [q] at hx; cases hx
  | some n =>
    rw [q] at hx he
    cases hx
    cases he
    rfl
theorem hold_rows {H : Hp} {q : Addr} {aw : List AW} (d : H q = some (.tup (adr aw))) (st : Stand H aw) (h : aw.length ≤ 1000) : Hold 3 H (.tuple ((wys aw).map fun w => dRow w.row)) (.ref q) := by
  refine ⟨q, adr aw, rfl, d, by rw [adr_len, List.length_map, wys_len], by rw [List.length_map, wys_len]; exact h, fun i x e hx he => ?_⟩
  obtain ⟨p, hp, rfl⟩ := adr_at hx
  rw [List.getElem?_map, List.getElem?_map, hp] at he
  cases he
  exact hold_row (st.at hp) (by show 4 ≤ 1000; decide)
theorem hold_book {H : Hp} {p q : Addr} {s c : Int} {aw : List AW} (d : H p = some (.tup [.int s, .int c, .ref q])) (d2 : H q = some (.tup (adr aw))) (st : Stand H aw) (h : aw.length ≤ 1000) : Hold 4 H (dBook (.ok (s, c, wys aw))) (.ref p) := by
  refine ⟨p, _, rfl, d, rfl, (by show 3 ≤ 1000; decide), fun i x e hx he => ?_⟩
  match i, hx, he with
  | 0, hx, he => cases hx; cases he; rfl
  | 1, hx, he => cases hx; cases he; rfl
  | 2, hx, he => cases hx; cases he; exact hold_rows d2 st h
  | n + 3, hx, he => exact absurd hx (by simp)
theorem LinesOf.same {s c : Int} {H H' : Hp} {D : Addr} (e : Same H H') (h : LinesOf s c H D) : LinesOf s c H' D := let ⟨n, ws, h1, h2, h3⟩ := h; ⟨n, ws, h1.same e, h2, h3⟩
theorem LinesOf.look {s c : Int} {H : Hp} {D : Addr} (hs : s ≤ 6) (hc : c ≤ 4) (h : LinesOf s c H D) (y : Str) :
    (wayOf y s c = none ∧ DGet H D (.str y) none) ∨ ∃ x a, wayOf y s c = some x ∧ DGet H D (.str y) (some (.ref a)) ∧ Tup H a x.row := by
  obtain ⟨n, ws, tx, ok, all⟩ := h
  obtain ⟨kvs, h1, h2, h3, h4⟩ := tx.ex
  have g : DGet H D (.str y) (valV kvs (.inr y)) := DGet.k (k := .inr y) h1
  cases e : valV kvs (.inr y) with
  | none =>
    rw [e] at g
    refine .inl ⟨?_, g⟩
    cases q : wayOf y s c with
    | none => rfl
    | some x =>
      obtain ⟨ox, hy⟩ := (way_iff hs hc).mp q
      obtain ⟨v, hv⟩ := h4 x (all x ox)
      rw [← hy, e] at hv
      cases hv
  | some v =>
    rw [e] at g
    obtain ⟨x, hx, a, e1, e2, e3⟩ := h3 _ _ e
    subst e2
    exact .inr ⟨x, a, (way_iff hs hc).mpr ⟨ok x hx, by injection e1⟩, g, e3⟩
theorem dget_same {H H' : Hp} (s : Same H H') {a : Addr} {y : V} {o : Option V} (g : DGet H a y o) : DGet H' a y o := by
  have rd : ∀ {u : HO}, Rd H a u → Rd H' a u := fun {u} r => by
    rcases r with r | ⟨o, r⟩
    · exact .inl (s _ _ r)
    · exact .inr ⟨o, s _ _ r⟩
  rcases g with ⟨kvs, k, h, e, l⟩ | ⟨kvs, k, b, h, e, eb, l⟩
  · exact .inl ⟨kvs, k, rd h, e, l⟩
  · exact .inr ⟨kvs, k, b, rd h, e, s _ _ eb, l⟩
def spDue : Sp := fun vs H Q _ => ∃ z : Str, vs = [.str z] ∧ z.length ≤ 1000000 ∧ ∀ v H', Same H H' → Hold 4 H' (dBook (bookOf z)) v → Q v H'
theorem sc_due : FnScope ["_law_text", "_law_rows", "_law_sizes_here", "_law_states", "_law_calls", "_law_lines_here", "_law_ways_here", "_law_k", "_law_state", "_law_call", "_law_way"] ["_law_text"] (defScope (top 39)) := ⟨rfl, rfl, rfl, by decide +kernel, rfl, by decide +kernel, by decide +kernel⟩
def tDueT (K : PySem.W.Frag) : TT := tAnd (tTest (tOp rEq (tOp (rIxT K) (tVar 10) (tC (.int 0))) (tVar 8))) (tTest (tOp rEq (tOp (rIxT K) (tVar 10) (tC (.int 1))) (tVar 9)))
section
variable {P : Program} {w : World} {K : PySem.W.Frag} {mg : Str → Option Value} {base : Heap}
theorem got_due (T : Txt K mg) (D : DefAt K mg "_law_due_book" (top 39)) (G1 : Got P w K mg base CX0 1 "_law_sizes" ["_law_line"] spSz) (G2 : Got P w K mg base CX0 1 "_law_lines" ["_law_states", "_law_calls"] spLines) : Got P w K mg base CX0 2 "_law_due_book" ["_law_text"] spDue := by
  obtain ⟨f1, fd1, F1, m1, k1, b1⟩ := G1
  obtain ⟨f2, fd2, F2, m2, k2, b2⟩ := G2
  refine got0 D sc_due (fun _ _ _ _ _ _ us hl => match us, hl with | [_], _ => rfl) (fun vs H Q E h => ?_) (fun f cdv A0 outer s0 H vs Q E hr h => ?_)
  · obtain ⟨z, rfl, _⟩ := h
    rfl
  · obtain ⟨z, rfl, hz, kQ⟩ := h
    refine ⟨_, pss_cons (ps_set (i := 1) sc_due.nd rfl (.inl rfl) (pe_split (pv 0) pe_str))
      (pss_cons (ps_set (i := 2) sc_due.nd rfl (.inl rfl) (pe_call F1 hr rfl m1 k1 b1 .nil pass0 (pa_cons (pe_ix ix_list (pv 1) pe_int (fun _ _ => rfl)) pa_nil)))
      (pss_cons (ps_if (pt_cmp (pc_isN (pv 2)) rfl) (pss_one (ps_ret pe_int)) pss_nil)
      (pss_cons (ps_asg (pv 2) (pg_tup rfl (pgs_cons (pg_name (i := 3) sc_due.nd rfl (.inl rfl)) (pgs_cons (pg_name (i := 4) sc_due.nd rfl (.inl rfl)) pgs_nil))))
      (pss_cons (ps_set (i := 5) sc_due.nd rfl (.inl rfl) (pe_call F2 hr rfl m2 k2 b2 .nil pass0 (pa_cons (pv 3) (pa_cons (pv 4) pa_nil))))
      (pss_cons (ps_set (i := 6) sc_due.nd rfl (.inl rfl) (pe_lst pa_nil))
      (pss_cons (ps_for PassesOwn.never rfl (pi_range2 rfl T.range (pa_cons pe_int (pa_cons (pe_len T.len (pv 1)) pa_nil))) (pg_name (i := 7) sc_due.nd rfl (.inl rfl))
        (pss_cons (ps_if (PW.pt (pw_or (pt_cmp (pc_dnotin (hu_of hr) (pe_ix ix_list (pv 1) (pv 7) (fun _ _ => rfl)) (pv 5)) rfl) (pw_or1 (PW.pt (pw_and (pt_cmpR (op_neD hr.units) (pv 6) (pe_lst pa_nil) (nomark _))
            (pw_and1 (pt_cmpR (op_leT (Nat.lt_of_le_of_lt (Nat.le_add_right _ 64) hr.units)) (pe_dget (hu_of hr) (pv 5) (pe_ix ix_list (pv 1) (pv 7) (fun _ _ => rfl)) (fun _ _ => rfl)) (pe_ix ix_list (pv 6) (pe_un un_neg pe_int) (fun _ _ => rfl)) (nomark _)))))))) (pss_one (ps_ret (pv 7))) pss_nil)
        (pss_one (ps_expr (pe_bm PySem.F.plainAttrs_list PySem.F.slot_list_append PySem.F.type_list_append mt_append (pv 6) (pa_cons (pe_dget (hu_of hr) (pv 5) (pe_ix ix_list (pv 1) (pv 7) (fun _ _ => rfl)) (fun _ _ => rfl)) pa_nil))))))
      (pss_cons (ps_for PassesOwn.never rfl (pi_range1 rfl T.range (pa_cons (pv 3) pa_nil)) (pg_name (i := 8) sc_due.nd rfl (.inr rfl))
        (pss_one (ps_for PassesOwn.never rfl (pi_range1 rfl T.range (pa_cons (pv 4) pa_nil)) (pg_name (i := 9) sc_due.nd rfl (.inr rfl))
          (pss_one (ps_if (pt_cmpR (op_eqD hr.units) (pe_lc (own := [("_law_way", 10)]) (g := gName 10) (tt := tDueT K) (te := tVar 10) rfl sc_due.nd (pi_list (pv 6))
              (blkOk_by (own := [("_law_way", 10)]) (N := ["_law_text", "_law_rows", "_law_sizes_here", "_law_states", "_law_calls", "_law_lines_here", "_law_ways_here", "_law_k", "_law_state", "_law_call", "_law_way"]) (sc := defScope (top 39)) (by decide +kernel))
              (fun _ _ _ _ _ => pg_name (i := 10) sc_due.nd rfl (.inl rfl))
              (fun _ _ _ _ _ => pts_one (PW.pt (pw_and (pt_cmpR op_eq (pe_ix ix_tup (pv 10) pe_int (fun _ _ => rfl)) (pv 8) (nomark _)) (pw_and1 (pt_cmpR op_eq (pe_ix ix_tup (pv 10) pe_int (fun _ _ => rfl)) (pv 9) (nomark _))))))
              (fun _ _ _ _ _ => pv 10)) (pe_lst pa_nil) (nomark _)) (pss_one (ps_ret (pe_len T.len (pv 1)))) pss_nil)))))
      (pss_one (ps_ret (pe_tup (pa_cons (pv 3) (pa_cons (pv 4) (pa_cons (pe_callTy call_tuple_of rfl T.tuple bt_tuple (pa_cons (pv 6) pa_nil)) pa_nil))))))))))))), ?_⟩
    -- rows = text.split("\n")
    refine ⟨_, rfl, ⟨_, rfl⟩, z, _, rfl, rfl, (by decide +kernel), small_line hz, fun L hL => ?_⟩
    have s1 : Same H (upd H L (.lst ((Txt.split z (Str.ofString "\n")).map V.str))) := Same.upd hL
    have dL : upd H L (.lst ((Txt.split z (Str.ofString "\n")).map V.str)) L = some (.lst ((parts z 10).map V.str)) := by
      rw [upd_same, t_line]
      rfl
    generalize upd H L (.lst ((Txt.split z (Str.ofString "\n")).map V.str)) = H1 at s1 dL ⊢
    obtain ⟨l, r, el⟩ : ∃ l r, parts z 10 = l :: r := by
      cases q : parts z 10 with
      | nil => exact absurd q (parts_ne (by decide) z)
      | cons l r => exact ⟨l, r, rfl⟩
    have hw : wt (parts z 10) = z.length + 1 := wt_parts (by decide) z
    have hn := wt_len (parts z 10)
    rw [el] at dL hw hn
    rw [List.length_cons] at hn
    have ll : l.length ≤ 1000000 := parts_small (by decide : 10 < 256) hz (by rw [el]; simp)
    rw [List.map_cons] at dL
    refine ⟨_, rfl, L, _, 0, .str l, rfl, rfl, .of dL, at_of (j := 0) rfl rfl, l, rfl, ll, fun es => ?_, fun s c es p H2 s2 hp => ?_⟩
    · refine ⟨_, rfl, _, rfl, ifT (decide_eq_true rfl) ?_⟩
      exact kQ _ _ s1 (by rw [bookOf_none el es]; rfl)
    obtain ⟨⟨⟨h1, h6⟩, h1', h4⟩, _⟩ := sizes_iff.mp es
    refine ⟨_, rfl, _, rfl, ifF (decide_eq_false (fun q => by cases q)) ?_⟩
    refine ⟨_, rfl, p, _, rfl, .of hp, rfl, _, _, rfl, _, _, rfl, rfl, ?_⟩
    refine ⟨_, rfl, _, rfl, s, c, rfl, h1, h6, h1', h4, fun H3 Dd s3 lo => ?_⟩
    have dL := s3 _ _ (s2 _ _ dL)
    have s13 := (s1.trans s2).trans s3
    refine ⟨(by show 0 ≤ sizeLine; decide), fun A hA => ?_⟩
    have hbnd : -(2 ^ 62) ≤ (((V.str l :: r.map V.str).length : Nat) : Int) ∧ (((V.str l :: r.map V.str).length : Nat) : Int) < 2 ^ 62 := small62 (by rw [List.length_cons, List.length_map]; omega)
    refine ⟨_, rfl, L, _, rfl, .inl (.of (Same.upd hA _ _ dL)), 1, _, rfl, ⟨by decide, by decide, hbnd.1, hbnd.2⟩,
      for_range (lo := 1) (n := (((V.str l :: r.map V.str).length : Int) - 1).toNat)
      (fun i σ H4 => ∃ (kv : Option V) (aw : List AW), σ = [some (.str z), some (.ref L), some (.ref p), some (.int s), some (.int c), some (.ref Dd), some (.ref A), kv, none, none, none] ∧ Same H3 H4 ∧ H4 A = some (.lst (adr aw)) ∧ Stand H4 aw ∧ ScanAt s c r i (wys aw))
      ⟨none, [], rfl, Same.upd hA, upd_same, fun p hp => by (cases hp), ScanAt.nil⟩ ?_ ?_⟩
    · rintro i σ H4 hi ⟨kv, aw, rfl, e4, dA, st, sc⟩
      rw [List.length_cons, List.length_map] at hi
      obtain ⟨y, hy⟩ : ∃ y, r[i]? = some y := ⟨_, List.getElem?_eq_getElem (by omega)⟩
      have dL4 := e4 _ _ dL
      have ek : ((1 + i : Nat) : Int) = 1 + (i : Int) := by omega
      have bad : scan s c 1 (-1) r = .error (1 + i) → ∀ H', Same H4 H' → Q (.int (1 + (i : Int))) H' := fun e H' e' => by
        refine kQ _ _ ((s13.trans e4).trans e') ?_
        rw [bookOf_err el es e]
        show V.int _ = V.int _
        rw [ek]
      have ea : atI (V.str l :: r.map V.str) (1 + (i : Int)) = some (.str y) := at_of (j := i + 1) (by omega) (by rw [List.getElem?_cons_succ, List.getElem?_map, hy]; rfl)
      refine ⟨_, rfl, _, rfl, L, _, _, .str y, rfl, rfl, .of dL4, ea, _, rfl, Dd, ?_⟩
      rcases (lo.same e4).look h6 h4 y with ⟨ew, g⟩ | ⟨x, a, ew, g, tp⟩
      · exact ⟨none, rfl, g, _, rfl, ifT rfl (ifT rfl ⟨_, rfl, bad (sc.bad hy ew) _ (Same.refl H4)⟩)⟩
      · have ox := ((way_iff h6 h4).mp ew).1
        refine ⟨_, rfl, g, _, rfl, ifF rfl ?_⟩
        refine ⟨_, rfl, (by show 0 ≤ sizeLine; decide), fun q hq => ⟨_, _, Stand.dpL (st.same (Same.upd hq)) (Same.upd hq _ _ dA), .lst (.of upd_same) .nil, shaped_rowsL _, shaped_rowsL [], _, rfl, ?_⟩⟩
        rw [eqv_nil]
        have e5 : Same H4 (upd H4 q (.lst [])) := Same.upd hq
        generalize upd H4 q (.lst []) = H5 at e5 ⊢
        have g5 := dget_same e5 g
        have tp5 := tp.same e5
        have dA5 := e5 _ _ dA
        have dL5 := e5 _ _ dL4
        have st5 := st.same e5
        have lk : aw = [] → ¬ x.key ≤ lastKey (wys aw) := fun q => by
          rw [q]
          have := key_nn (ox.fig h6 h4)
          show ¬ x.key ≤ -1
          omega
        rcases last_split aw with hz | ⟨m, pv, hz⟩
        case' inl =>
          have hkey := lk hz
          refine ifF (by rw [hz]; rfl) (ifF rfl ?_)
        case' inr =>
          have ea2 : adr aw = adr m ++ [V.ref pv.1] := by rw [hz, adr_snoc]
          have ek2 : pv.2.key = lastKey (wys aw) := by rw [hz, wys_snoc, lastKey_snoc]
          have mp : pv ∈ aw := by rw [hz]; exact List.mem_append_right _ (List.mem_singleton.mpr rfl)
          refine ifT (by rw [hz, wys_snoc]; cases wys m <;> rfl) ⟨_, rfl, _, rfl, _, rfl, L, _, _, .str y, rfl, rfl, .of dL5, ea, Dd, .ref a, rfl, g5, _, rfl, 1, rfl, A, _, _, _, rfl, rfl, .of dA5, by rw [ea2]; exact atI_last _ _, a, pv.1, x.row, pv.2.row, rfl, rfl, tp5.t, (st5 pv mp).t, _, rfl, ?_⟩
          rw [row_le (ox.fig h6 h4) ((sc.ok _ (List.mem_map.mpr ⟨pv, mp, rfl⟩)).fig h6 h4), ek2]
          by_cases hkey : x.key ≤ lastKey (wys aw)
          case' pos => exact ifT (decide_eq_true hkey) ⟨_, rfl, bad (sc.low hy ew hkey) _ e5⟩
          refine ifF (decide_eq_false hkey) ?_
        all_goals
          refine ⟨_, rfl, .inl ⟨rfl, _, .of dA5⟩, ?_⟩
          refine ⟨_, rfl, _, rfl, _, rfl, L, _, _, .str y, rfl, rfl, .of dL5, ea, Dd, .ref a, rfl, g5, A, _, _, rfl, rfl, dA5, ?_, _, aw ++ [(a, x)], rfl, (e4.trans e5).set hA, ?_, ?_, ?_⟩
          · have := sc.len
            rw [wys_len] at this
            rw [adr_len]
            exact lt_line (by omega)
          · rw [upd_same, adr_snoc]
          · intro b hb
            have t1 := (st5.snoc tp5 : Stand H5 (aw ++ [(a, x)])) b hb
            show upd H5 A _ b.1 = _
            rw [upd_ne (ne_of t1 dA5 (fun z => by cases z))]
            exact t1
          · rw [wys_snoc]
            exact sc.go h6 h4 hy ew hkey
    · rintro σ H4 ⟨kv, aw, rfl, e4, dA, st, sc⟩
      have en : (((V.str l :: r.map V.str).length : Int) - 1).toNat = r.length := by
        rw [List.length_cons, List.length_map]
        omega
      rw [en] at sc
      have sd := sc.done
      obtain ⟨oks, asc, _, _⟩ := scan_ok h6 h4 sd
      have len : aw.length ≤ 432 := by
        have := ways_len h6 h4 oks asc
        rw [wys_len] at this
        exact this
      have s14 := s13.trans e4
      have dL4 := e4 _ _ dL
      refine ⟨_, rfl, _, rfl, by omega, by omega, for_range (lo := 0) (n := s.toNat) (fun i σ H5 => Same H4 H5 ∧ ∃ sv cv wv, σ = [some (.str z), some (.ref L), some (.ref p), some (.int s), some (.int c), some (.ref Dd), some (.ref A), kv, sv, cv, wv] ∧ ∀ a b : Int, 0 ≤ a → a < i → 0 ≤ b → b < c → ∃ x ∈ wys aw, x.st = a ∧ x.ca = b)
        ⟨Same.refl _, none, none, none, rfl, fun a b h1 h2 => by omega⟩ ?_ ?_⟩
      · rintro i σ H5 hi ⟨e5, sv, cv, wv, rfl, has⟩
        refine ⟨_, rfl, _, rfl, by omega, by omega, for_range (lo := 0) (n := c.toNat) (fun j σ H6 => Same H4 H6 ∧ ∃ cv wv, σ = [some (.str z), some (.ref L), some (.ref p), some (.int s), some (.int c), some (.ref Dd), some (.ref A), kv, some (.int (0 + i)), cv, wv] ∧ ∀ b : Int, 0 ≤ b → b < j → ∃ x ∈ wys aw, x.st = i ∧ x.ca = b)
          ⟨e5, cv, wv, rfl, fun b h1 h2 => by omega⟩ ?_ ?_⟩
        · rintro j σ H6 hj ⟨e6, cv, wv, rfl, has2⟩
          have dA6 := e6 _ _ dA
          refine ⟨_, rfl, A, rfl, ⟨_, .of dA6⟩, fun F hF => lc_list (K := K) (a := A) (xs := adr aw) (fun k H7 => Same H6 H7 ∧ H7 F = some (.lst (adr ((aw.take k).filter fun r : AW => decide (r.2.st = (i : Int)) && decide (r.2.ca = (j : Int)))))) ⟨Same.upd hF, upd_same⟩ (fun k H7 _ h7 => .of (h7.1 _ _ dA6)) ?_ ?_⟩
          · rintro k x H7 hk ⟨e7, d7⟩
            obtain ⟨q, hq, rfl⟩ := adr_at hk
            have tq := ((st.at hq).same (e6.trans e7)).t (K := K)
            refine ⟨rfl, _, rfl, q.1, _, 0, .int q.2.st, rfl, rfl, tq, rfl, _, rfl, rfl, _, rfl, ?_⟩
            have hlen : (adr ((aw.take k).filter fun r : AW => decide (r.2.st = (i : Int)) && decide (r.2.ca = (j : Int)))).length < sizeLine := by
              rw [adr_len]
              have h1 := List.length_filter_le (fun r : AW => decide (r.2.st = i) && decide (r.2.ca = j)) (aw.take k)
              rw [List.length_take] at h1
              exact small1000 (by omega)
            by_cases hs : q.2.st = i
            · refine ifT (decide_eq_true (by rw [hs, Int.zero_add])) ⟨_, rfl, q.1, _, 1, .int q.2.ca, rfl, rfl, tq, rfl, _, rfl, rfl, _, rfl, ?_⟩
              by_cases hc : q.2.ca = j
              · refine ifT (decide_eq_true (by rw [hc, Int.zero_add])) ⟨_, rfl, _, d7, hlen, e7.set hF, ?_⟩
                rw [upd_same, take_more hq, List.filter_append, List.filter_cons_of_pos (by rw [hs, hc]; simp), List.filter_nil, adr_snoc]
              · refine ifF (decide_eq_false (fun z => hc (by injection z with z; omega))) ⟨e7, ?_⟩
                rw [d7, take_more hq, List.filter_append, List.filter_cons_of_neg (by simp [hc]), List.filter_nil, List.append_nil]
            · refine ifF (decide_eq_false (fun z => hs (by injection z with z; omega))) (ifF rfl ⟨e7, ?_⟩)
              rw [d7, take_more hq, List.filter_append, List.filter_cons_of_neg (by simp [hs]), List.filter_nil, List.append_nil]
          · rintro H7 ⟨e7, d7⟩
            rw [adr_len, List.take_length] at d7
            generalize hfw : (aw.filter fun r : AW => decide (r.2.st = (i : Int)) && decide (r.2.ca = (j : Int))) = fw at d7
            have sfw : ∀ x ∈ fw, x ∈ aw ∧ x.2.st = i ∧ x.2.ca = j := fun x hx => by
              rw [← hfw, List.mem_filter, Bool.and_eq_true, decide_eq_true_eq, decide_eq_true_eq] at hx
              exact hx
            have stf : Stand H7 fw := fun x hx => ((st x (sfw x hx).1).same e6).same e7
            refine ⟨(by show 0 ≤ sizeLine; decide), fun q hq => ⟨_, _, Stand.dpL (stf.same (Same.upd hq)) (Same.upd hq _ _ d7), .lst (.of upd_same) .nil, shaped_rowsL _, shaped_rowsL [], _, rfl, ?_⟩⟩
            rw [eqv_nil]
            have e8 : Same H4 (upd H7 q (.lst [])) := (e6.trans e7).new hq
            generalize upd H7 q (.lst []) = H8 at e8 ⊢
            cases fw with
            | nil =>
              refine ifT rfl ⟨_, rfl, L, _, rfl, .inl (.of (e8 _ _ dL4)), ?_⟩
              refine kQ _ _ (s14.trans e8) ?_
              rw [bookOf_gap el es sd ?_]
              · show V.int _ = V.int _
                rw [List.length_cons, List.length_map]
              · cases cv : covers s c (wys aw) with
                | false => rfl
                | true =>
                  obtain ⟨x, hx, e1, e2⟩ := (covers_iff (by omega) (by omega)).mp cv i j (by omega) (by omega) (by omega) (by omega)
                  obtain ⟨r0, hr0, rfl⟩ := List.mem_map.mp hx
                  have : r0 ∈ aw.filter fun r : AW => decide (r.2.st = (i : Int)) && decide (r.2.ca = (j : Int)) := by
                    rw [List.mem_filter, Bool.and_eq_true, decide_eq_true_eq, decide_eq_true_eq]
                    exact ⟨hr0, e1, e2⟩
                  rw [hfw] at this
                  cases this
            | cons x0 rest =>
              obtain ⟨h1, h2, h3⟩ := sfw x0 (List.mem_cons_self ..)
              refine ifF rfl ⟨e8, _, _, rfl, fun b b0 b1 => ?_⟩
              by_cases e : b = j
              · exact ⟨x0.2, List.mem_map.mpr ⟨x0, h1, rfl⟩, h2, by rw [h3, e]⟩
              · exact has2 b b0 (by omega)
        · rintro σ H6 ⟨e6, cv, wv, rfl, has2⟩
          refine ⟨e6, _, _, _, rfl, fun a b a0 a1 b0 b1 => ?_⟩
          by_cases e : a = i
          · rw [e]
            exact has2 b b0 (by omega)
          · exact has a b a0 (by omega) b0 b1
      · rintro σ H5 ⟨e5, sv, cv, wv, rfl, has⟩
        have cv : covers s c (wys aw) = true := (covers_iff (by omega) (by omega)).mpr fun a b a0 a1 b0 b1 => has a b a0 (by omega) b0 b1
        refine ⟨_, rfl, _, rfl, _, rfl, A, _, rfl, .inl ⟨.of (e5 _ _ dA), fun t ht => ⟨(by show 3 ≤ sizeLine; decide), fun u hu => ?_⟩⟩⟩
        refine kQ _ _ (((s14.trans e5).new ht).new hu) ?_
        rw [bookOf_ok el es sd cv]
        exact hold_book upd_same (Same.upd hu _ _ upd_same) (((st.same e5).same (Same.upd ht)).same (Same.upd hu)) (by omega)
end
end K3
/-! _law_read_book, _law_due_history, _law_read_history -/
namespace K3
open PySem PySem.Spec PyProof.Rows L2
theorem Hold.mono {H : Hp} : ∀ {n : Nat} {d : PyData} {v : V}, Hold n H d v → Hold (n + 1) H d v
  | 0, _, _, h => h.elim
  | _ + 1, .int _, _, h => h
  | _ + 1, .str _, _, h => h
  | n + 1, .tuple ds, v, ⟨p, xs, h1, h2, h3, h4, h5⟩ => ⟨p, xs, h1, h2, h3, h4, fun i x e a b => Hold.mono (h5 i x e a b)⟩
  | _ + 1, .none, _, h => h.elim
  | _ + 1, .bool _, _, h => h.elim
  | _ + 1, .list _, _, h => h.elim
  | _ + 1, .dict _, _, h => h.elim
/-- x is no text -/
def NoText (K : PySem.W.Frag) (H : Hp) (x : V) : Prop := ∃ t, TyX K H x t ∧ PySem.W.kitOne K t (.type "str") = some false
/-! ### _law_read_book -/
def spRB (K : PySem.W.Frag) : Sp := fun vs H Q _ => ∃ (x : V) (d : PyData), vs = [x] ∧ ((∃ z : Str, x = .str z ∧ z.length ≤ 1000000 ∧ d = dBook (bookOf z)) ∨ (NoText K H x ∧ d = .int 0)) ∧ ∀ v H', Same H H' → Hold 4 H' d v → Q v H'
theorem sc_rb : FnScope ["_law_text", "_law_book", "e"] ["_law_text"] (defScope (top 40)) := ⟨rfl, rfl, rfl, by decide +kernel, rfl, by decide +kernel, by decide +kernel⟩
section
variable {P : Program} {w : World} {K : PySem.W.Frag} {mg : Str → Option Value} {base : Heap}
theorem got_rb {Cb fB C fI fE : Addr} (T : Txt K mg) (B : Bad K mg Cb fB) (BC : BookC K mg C fI fE) (D : DefAt K mg "_law_read_book" (top 40)) (G : Got P w K mg base (L2.CX P w) 6 "read_book" ["text"] (spRead K Cb C)) : Got P w K mg base CX0 7 "_law_read_book" ["_law_text"] (spRB K) := by
  obtain ⟨f1, fd1, F1, m1, k1, b1⟩ := G
  refine got0 D sc_rb (fun _ _ _ _ _ _ us hl => match us, hl with | [_], _ => rfl) (fun vs H Q E h => ?_) (fun f cdv A outer s0 H vs Q E hr h => ?_)
  · obtain ⟨x, d, rfl, _⟩ := h
    rfl
  · obtain ⟨x, d, rfl, hx, k⟩ := h
    refine ⟨_, pss_cons (ps_try_as (i := 2) (tb := fun W => tAsg (tCallS (spRead K Cb C) (WE W) (tCons (tVar 0) tNil)) (gName 1)) (ts := fun a cls d => tRet (tXf a cls d Cb "place" (tVar 2))) (Wout := fun _ _ _ _ => False) rfl rfl sc_rb.nd rfl rfl ⟨rfl, by decide, .inl B.gC⟩ takes0
        (fun W pn xe tk _ => pss_one (ps_set (i := 1) sc_rb.nd rfl (.inl rfl) (by exact (pe_callS F1 hr rfl m1 k1 b1 (fun σ => passAt tk σ) (by exact (pa_cons (pv 0) pa_nil))))))
        (fun a oe cls d pn hz hf => pss_one (ps_ret (by exact (pe_xf B.xf B.noP hz hf (pv 2))))))
      (pss_cons (ps_if (pt_not (pt_val (pe_callB (C8.call_isC BC.ins) rfl T.isin (by decide +kernel) (pa_cons (pv 1) (pa_cons (pe_glob (v := .ref C) rfl BC.gC rfl) pa_nil))))) (pss_one (ps_ret pe_non)) pss_nil)
      (pss_one (ps_ret (pe_tup (pa_cons (pe_fld (pv 1) rfl) (pa_cons (pe_fld (pv 1) rfl) (pa_cons (pe_fld (pv 1) rfl) pa_nil))))))), ?_⟩
    have caught : ∀ (n : Int) (H2 : Hp) (dd : Addr) (H3 : Hp), d = .int n → Same H H2 → Same H2 H3 → H3 dd = some (.xd [(("place" : Str), V.int n)]) → Q (.int n) H3 := fun n H2 dd H3 e s1 s2 _ => k _ _ (s1.trans s2) (by rw [e]; rfl)
    refine ⟨_, rfl, x, rfl, ?_⟩
    rcases hx with ⟨z, rfl, hz, hd⟩ | ⟨⟨t, ty, kt⟩, hd⟩
    · refine .inl ⟨z, rfl, hz, fun n en dd H3 s3 h3 => ⟨true, B.te, fun _ a0 _ => ?_, fun q => Bool.noConfusion q⟩, fun s c ws eb BO H3 p q aw s3 BA ew => ?_⟩
      · exact ⟨_, rfl, rfl, rfl, dd, _, _, rfl, h3, rfl, caught n H dd H3 (by rw [hd, en]; rfl) (Same.refl H) s3 h3⟩
      · obtain ⟨⟨dx, hp⟩, hq, hst⟩ := BA
        refine ⟨_, rfl, p, dx, _, rfl, hp, true, rfl, iteF ?_⟩
        refine ⟨_, rfl, p, C, dx, _, _, rfl, hp, BC.cl, BC.nS, flds_s _ _ _, _, rfl, p, C, dx, _, _, rfl, hp, BC.cl, BC.nC, flds_c _ _ _, _, rfl, p, C, dx, _, _, rfl, hp, BC.cl, BC.nW, flds_w _ _ _, (by show 3 ≤ sizeLine; decide), fun u hu => ?_⟩
        refine k _ _ (s3.new hu) ?_
        rw [hd, eb, ← ew]
        have := BO.len
        rw [← ew, wys_len] at this
        exact hold_book upd_same (Same.upd hu _ _ hq) (hst.same (Same.upd hu)) (by omega)
    · refine .inr ⟨t, ty, kt, fun dd H3 s3 h3 => ⟨true, B.te, fun _ a0 _ => ?_, fun q => Bool.noConfusion q⟩⟩
      exact ⟨_, rfl, rfl, rfl, dd, _, _, rfl, h3, rfl, caught 0 H dd H3 hd (Same.refl H) s3 h3⟩
end
/-! ### _law_due_history -/
theorem hold_ents {H : Hp} {q : Addr} {ae : List AE} (d : H q = some (.tup (adrE ae))) (st : StandE H ae) (h : ae.length ≤ 1000) : Hold 3 H (dHist (.ok (ents ae))) (.ref q) := by
  refine ⟨q, adrE ae, rfl, d, by rw [adrE_len, List.length_map, ents_len], by rw [List.length_map, ents_len]; exact h, fun i x e hx he => ?_⟩
  obtain ⟨p, hp, rfl⟩ := adrE_at hx
  rw [List.getElem?_map, List.getElem?_map, hp] at he
  cases he
  exact hold_row (st p (List.mem_of_getElem? hp)) (by show 3 ≤ 1000; decide)
def KnownOf (c : Int) (H : Hp) (D : Addr) : Prop := ∃ (n : Nat) (ws : List Ent), TextsAt Ent.txt Ent.row H D n ws ∧ (∀ x ∈ ws, x.ok c) ∧ ∀ x : Ent, x.ok c → x ∈ ws
theorem KnownOf.same {c : Int} {H H' : Hp} {D : Addr} (e : Same H H') (h : KnownOf c H D) : KnownOf c H' D := let ⟨n, ws, h1, h2, h3⟩ := h; ⟨n, ws, h1.same e, h2, h3⟩
theorem KnownOf.look {c : Int} {H : Hp} {D : Addr} (hc : c ≤ 4) (h : KnownOf c H D) (y : Str) :
    (entOf y c = none ∧ DGet H D (.str y) none) ∨ ∃ x a, entOf y c = some x ∧ DGet H D (.str y) (some (.ref a)) ∧ Tup H a x.row := by
  obtain ⟨n, ws, tx, ok, all⟩ := h
  obtain ⟨kvs, h1, h2, h3, h4⟩ := tx.ex
  have g : DGet H D (.str y) (valV kvs (.inr y)) := DGet.k (k := .inr y) h1
  cases e : valV kvs (.inr y) with
  | none =>
    rw [e] at g
    refine .inl ⟨?_, g⟩
    cases q : entOf y c with
    | none => rfl
    | some x =>
      obtain ⟨ox, hy⟩ := (ent_iff hc).mp q
      obtain ⟨v, hv⟩ := h4 x (all x ox)
      rw [← hy, e] at hv
      cases hv
  | some v =>
    rw [e] at g
    obtain ⟨x, hx, a, e1, e2, e3⟩ := h3 _ _ e
    subst e2
    exact .inr ⟨x, a, (ent_iff hc).mpr ⟨ok x hx, by injection e1⟩, g, e3⟩
/-- what the three loops have written -/
structure KnownAt (c : Int) (D : Addr) (i j k : Nat) (H : Hp) (ws : List Ent) : Prop where
  tx : TextsAt Ent.txt Ent.row H D ((i * 4 + j) * 3 + k) ws
  ok : ∀ x ∈ ws, x.ok c
  all : ∀ x : Ent, x.ok c → (x.ha < i ∨ (x.ha = i ∧ (x.ca < j ∨ (x.ca = j ∧ x.an < k)))) → x ∈ ws
theorem KnownAt.up {c : Int} {D : Addr} {i j k i' j' k' : Nat} {H : Hp} {ws : List Ent} (h : KnownAt c D i j k H ws) (hn : (i * 4 + j) * 3 + k ≤ (i' * 4 + j') * 3 + k')
    (hi : ∀ x : Ent, x.ok c → (x.ha < i' ∨ (x.ha = i' ∧ (x.ca < j' ∨ (x.ca = j' ∧ x.an < k')))) → (x.ha < i ∨ (x.ha = i ∧ (x.ca < j ∨ (x.ca = j ∧ x.an < k))))) : KnownAt c D i' j' k' H ws := by
  obtain ⟨kvs, h1, h2, h3, h4⟩ := h.tx.ex
  exact ⟨⟨kvs, h1, Nat.le_trans h2 hn, h3, h4⟩, h.ok, fun x ox hx => h.all x ox (hi x ox hx)⟩
def spDH : Sp := fun vs H Q _ => ∃ (c : Int) (z : Str), vs = [.int c, .str z] ∧ 1 ≤ c ∧ c ≤ 4 ∧ z.length ≤ 1000000 ∧ ∀ v H', Same H H' → Hold 3 H' (dHist (histOf c z)) v → Q v H'
theorem sc_dh : FnScope ["_law_calls", "_law_text", "_law_words", "_law_known", "_law_one", "_law_call", "_law_answer", "_law_rows", "_law_k"] ["_law_calls", "_law_text"] (defScope (top 41)) := ⟨rfl, rfl, rfl, by decide +kernel, rfl, by decide +kernel, by decide +kernel⟩
section
variable {P : Program} {w : World} {K : PySem.W.Frag} {mg : Str → Option Value} {base : Heap}
theorem got_dh (T : Txt K mg) (D : DefAt K mg "_law_due_history" (top 41)) : Got P w K mg base CX0 1 "_law_due_history" ["_law_calls", "_law_text"] spDH := by
  refine got0 D sc_dh (fun _ _ _ _ _ _ us hl => match us, hl with | [_, _], _ => rfl) (fun vs H Q E h => ?_) (fun f cdv A0 outer s0 H vs Q E hr h => ?_)
  · obtain ⟨c, z, rfl, _⟩ := h
    rfl
  · obtain ⟨c, z, rfl, c1, c4, hz, kQ⟩ := h
    refine ⟨_, pss_cons (ps_if (pt_cmpR op_eq (pv 1) pe_str (nomark _)) (pss_one (ps_ret (pe_tup pa_nil))) pss_nil)
      (pss_cons (ps_set (i := 2) sc_dh.nd rfl (.inl rfl) (pe_split (pv 1) pe_str))
      (pss_cons (ps_if (pt_cmpR op_gt (pe_len T.len (pv 2)) pe_int (nomark _)) (pss_one (ps_ret pe_int)) pss_nil)
      (pss_cons (ps_set (i := 3) sc_dh.nd rfl (.inl rfl) pe_dnewK)
      (pss_cons (ps_for PassesOwn.never rfl (pi_range1 rfl T.range (pa_cons pe_int pa_nil)) (pg_name (i := 4) sc_dh.nd rfl (.inl rfl))
        (pss_one (ps_for PassesOwn.never rfl (pi_range1 rfl T.range (pa_cons (pv 0) pa_nil)) (pg_name (i := 5) sc_dh.nd rfl (.inl rfl))
          (pss_one (ps_for PassesOwn.never rfl (pi_range1 rfl T.range (pa_cons pe_int pa_nil)) (pg_name (i := 6) sc_dh.nd rfl (.inl rfl))
              (pss_one (ps_dput (hu_of hr) (pv 3) (pe_joined (.cons (pe_fmt (pv 4)) (.cons pe_str (.cons (pe_fmt (pv 5)) (.cons pe_str (.cons (pe_fmt (pv 6)) .nil))))))
                (pe_tup (pa_cons (pv 4) (pa_cons (pv 5) (pa_cons (pv 6) pa_nil)))) rfl)))))))
      (pss_cons (ps_set (i := 7) sc_dh.nd rfl (.inl rfl) (pe_lst pa_nil))
      (pss_cons (ps_for PassesOwn.never rfl (pi_range1 rfl T.range (pa_cons (pe_len T.len (pv 2)) pa_nil)) (pg_name (i := 8) sc_dh.nd rfl (.inl rfl))
        (pss_cons (ps_if (pt_cmp (pc_dnotin (hu_of hr) (pe_ix ix_list (pv 2) (pv 8) (fun _ _ => rfl)) (pv 3)) rfl) (pss_one (ps_ret (pv 8))) pss_nil)
        (pss_one (ps_expr (pe_bm PySem.F.plainAttrs_list PySem.F.slot_list_append PySem.F.type_list_append mt_append (pv 7) (pa_cons (pe_dget (hu_of hr) (pv 3) (pe_ix ix_list (pv 2) (pv 8) (fun _ _ => rfl)) (fun _ _ => rfl)) pa_nil))))))
      (pss_one (ps_ret (pe_callTy call_tuple_of rfl T.tuple bt_tuple (pa_cons (pv 7) pa_nil)))))))))), ?_⟩
    refine ⟨_, rfl, rfl, _, rfl, ?_⟩
    rw [t_empty]
    by_cases h0 : z = Str.empty
    · refine ifT (decide_eq_true (by rw [h0])) ⟨(by show 0 ≤ sizeLine; decide), fun t ht => ?_⟩
      exact kQ _ _ (Same.upd ht) (by rw [h0, hist_empty]; exact hold_ents (ae := []) upd_same (fun a ha => by cases ha) (by decide))
    · refine ifF (decide_eq_false (fun e => h0 (by injection e))) ?_
      refine ⟨_, rfl, ⟨_, rfl⟩, z, _, rfl, rfl, (by decide +kernel), small_line hz, fun L hL => ?_⟩
      have s1 : Same H (upd H L (.lst ((Txt.split z (Str.ofString " ")).map V.str))) := Same.upd hL
      have dL : upd H L (.lst ((Txt.split z (Str.ofString " ")).map V.str)) L = some (.lst ((parts z 32).map V.str)) := by
        rw [upd_same, t_blank]
        rfl
      generalize upd H L (.lst ((Txt.split z (Str.ofString " ")).map V.str)) = H1 at s1 dL ⊢
      refine ⟨_, rfl, L, _, rfl, .inl (.of dL), _, _, rfl, rfl, _, rfl, ?_⟩
      rw [List.length_map]
      by_cases hn : (parts z 32).length > 400
      · refine ifT (decide_eq_true (by omega)) (kQ _ _ s1 ?_)
        rw [hist_many h0 hn]
        rfl
      · refine ifF (decide_eq_false (by omega)) ?_
        have eh := hist_scan (c := c) h0 hn
        refine fun Dd hD => ?_
        have L0 : KnownAt c Dd 0 0 0 (upd H1 Dd (.dK [])) [] := ⟨TextsAt.nil, fun x hx => (by cases hx), fun x ox hx => by obtain ⟨o1, o2, o3⟩ := ox; omega⟩
        have e0 : Same H1 (upd H1 Dd (.dK [])) := Same.upd hD
        change tSeq _ _ _ _ (upd H1 Dd (.dK []))
        generalize upd H1 Dd (.dK []) = H0 at L0 e0 ⊢
        refine ⟨_, rfl, by decide, by decide, for_range (lo := 0) (n := 10) (fun i σ H2 => Same H1 H2 ∧ ∃ a b d ws, σ = [some (.int c), some (.str z), some (.ref L), some (.ref Dd), a, b, d, none, none] ∧ KnownAt c Dd i 0 0 H2 ws) ⟨e0, none, none, none, [], rfl, L0⟩ ?_ ?_⟩
        · rintro i σ H2 hi ⟨e2, a, b, d, ws, rfl, L2⟩
          refine ⟨_, rfl, _, rfl, by omega, by omega, for_range (lo := 0) (n := c.toNat) (fun j σ H3 => Same H1 H3 ∧ ∃ b d ws, σ = [some (.int c), some (.str z), some (.ref L), some (.ref Dd), some (.int (0 + i)), b, d, none, none] ∧ KnownAt c Dd i j 0 H3 ws) ⟨e2, b, d, ws, rfl, L2⟩ ?_ ?_⟩
          · rintro j σ H3 hj ⟨e3, b, d, ws, rfl, L3⟩
            refine ⟨_, rfl, by decide, by decide, for_range (lo := 0) (n := 3) (fun k σ H4 => Same H1 H4 ∧ ∃ d ws, σ = [some (.int c), some (.str z), some (.ref L), some (.ref Dd), some (.int (0 + i)), some (.int (0 + j)), d, none, none] ∧ KnownAt c Dd i j k H4 ws) ⟨e3, d, ws, rfl, L3⟩ ?_ ?_⟩
            · rintro k σ H5 hk ⟨e5, d, ws, rfl, L5⟩
              refine ⟨_, rfl, _, rfl, _, rfl, (by show 3 ≤ sizeLine; decide), fun t ht => ⟨_, rfl, _, rfl, js_fig (a := []) ⟨by omega, by omega⟩ (Nat.le_of_ble_eq_true rfl) (js_str t_colon (Nat.le_of_ble_eq_true rfl) ⟨_, rfl, js_fig ⟨by omega, by omega⟩ (Nat.le_of_ble_eq_true rfl) (js_str t_gt (Nat.le_of_ble_eq_true rfl)
                ⟨_, rfl, js_fig ⟨by omega, by omega⟩ (Nat.le_of_ble_eq_true rfl) ?_⟩)⟩)⟩⟩
              have e6 : Same H5 (upd H5 t (.tup [.int (0 + i), .int (0 + j), .int (0 + k)])) := Same.upd ht
              obtain ⟨H', dp, tx, o, rfl⟩ := (L5.tx.same e6).put (t := t) (by omega) ⟨0 + i, 0 + j, 0 + k⟩ upd_same
              refine ⟨Dd, _, rfl, dp, (e5.trans e6).set hD, _, _, rfl, tx, fun x hx => ?_, fun x ox hx => ?_⟩
              · rcases List.mem_append.mp hx with hx | hx
                · exact L5.ok x hx
                · rw [List.mem_singleton] at hx
                  subst hx
                  exact ⟨⟨by show (0 : Int) ≤ 0 + i; omega, by show (0 : Int) + i ≤ 9; omega⟩, ⟨by show (0 : Int) ≤ 0 + j; omega, by show (0 : Int) + j < c; omega⟩, by show (0 : Int) ≤ 0 + k; omega, by show (0 : Int) + k < 3; omega⟩
              · by_cases q : x.ha = i ∧ x.ca = j ∧ x.an = k
                · refine List.mem_append_right _ (List.mem_singleton.mpr ?_)
                  obtain ⟨x1, x2, x3⟩ := x
                  dsimp only at q
                  obtain ⟨rfl, rfl, rfl⟩ := q
                  rw [Int.zero_add, Int.zero_add, Int.zero_add]
                · exact List.mem_append_left _ (L5.all x ox (by omega))
            · rintro σ H4 ⟨e4, d, ws, rfl, L4⟩
              exact ⟨e4, _, _, _, rfl, L4.up (by omega) (fun x ox hx => by obtain ⟨o1, o2, o3⟩ := ox; omega)⟩
          · rintro σ H3 ⟨e3, b, d, ws, rfl, L3⟩
            exact ⟨e3, _, _, _, _, rfl, L3.up (by omega) (fun x ox hx => by obtain ⟨o1, o2, o3⟩ := ox; omega)⟩
        · rintro σ H2 ⟨e2, a, b, d, ws, rfl, L2⟩
          have lo : KnownOf c H2 Dd := ⟨_, ws, L2.tx, L2.ok, fun x ox => L2.all x ox (by obtain ⟨o1, o2, o3⟩ := ox; omega)⟩
          have s2 := s1.trans e2
          have dL2 := e2 _ _ dL
          refine ⟨(by show 0 ≤ sizeLine; decide), fun A hA => ?_⟩
          refine ⟨_, rfl, L, _, rfl, .inl (.of (Same.upd hA _ _ dL2)), _, rfl, (small62 (by rw [List.length_map]; omega)).1, (small62 (by rw [List.length_map]; omega)).2, for_range (lo := 0) (n := (((parts z 32).map V.str).length : Int).toNat)
            (fun i σ H4 => ∃ (kv : Option V) (ae : List AE), σ = [some (.int c), some (.str z), some (.ref L), some (.ref Dd), a, b, d, some (.ref A), kv] ∧ Same H2 H4 ∧ H4 A = some (.lst (adrE ae)) ∧ StandE H4 ae ∧ ScanE c (parts z 32) i (ents ae))
            ⟨none, [], rfl, Same.upd hA, upd_same, fun p hp => by (cases hp), ScanE.nil⟩ ?_ ?_⟩
          · rintro i σ H4 hi ⟨kv, ae, rfl, e4, dA, st, sc⟩
            rw [List.length_map] at hi
            obtain ⟨y, hy⟩ : ∃ y, (parts z 32)[i]? = some y := ⟨_, List.getElem?_eq_getElem (by omega)⟩
            have dL4 := e4 _ _ dL2
            have ea : atI ((parts z 32).map V.str) (0 + (i : Int)) = some (.str y) := at_of (j := i) (by omega) (by rw [List.getElem?_map, hy]; rfl)
            refine ⟨_, rfl, _, rfl, L, _, _, .str y, rfl, rfl, .of dL4, ea, _, rfl, Dd, ?_⟩
            rcases (lo.same e4).look c4 y with ⟨ew, g⟩ | ⟨x, t, ew, g, tp⟩
            · refine ⟨none, rfl, g, _, rfl, ifT rfl ⟨_, rfl, kQ _ _ (s2.trans e4) ?_⟩⟩
              rw [eh, sc.bad hy ew]
              show V.int _ = V.int _
              rw [Int.zero_add]
            · refine ⟨_, rfl, g, _, rfl, ifF rfl ?_⟩
              refine ⟨_, rfl, .inl ⟨rfl, _, .of dA⟩, ?_⟩
              refine ⟨_, rfl, _, rfl, _, rfl, L, _, _, .str y, rfl, rfl, .of dL4, ea, Dd, .ref t, rfl, g, A, _, _, rfl, rfl, dA, ?_, _, ae ++ [(t, x)], rfl, e4.set hA, ?_, ?_, ?_⟩
              · have := sc.len
                rw [ents_len] at this
                rw [adrE_len]
                exact small1000 (by omega)
              · rw [upd_same, adrE_snoc]
              · intro b hb
                have t1 := (st.snoc tp : StandE H4 (ae ++ [(t, x)])) b hb
                show upd H4 A _ b.1 = _
                rw [upd_ne (ne_of t1 dA (fun z => by cases z))]
                exact t1
              · rw [ents_snoc]
                exact sc.go hy ew
          · rintro σ H4 ⟨kv, ae, rfl, e4, dA, st, sc⟩
            rw [List.length_map] at sc
            have len : ae.length ≤ 400 := by
              have := sc.len
              rw [ents_len] at this
              omega
            have sd : scanE c 0 (parts z 32) = .ok (ents ae) := ScanE.done (by exact sc)
            refine ⟨_, rfl, A, _, rfl, .inl ⟨.of dA, fun t ht => kQ _ _ ((s2.trans e4).new ht) ?_⟩⟩
            rw [eh, sd]
            exact hold_ents upd_same (st.same (Same.upd ht)) (by omega)
end
/-! ### _law_read_history -/
def spRH (K : PySem.W.Frag) (C : Addr) : Sp := fun vs H Q _ => ∃ (p : Addr) (s c : Int) (q : Addr) (aw : List AW) (x : V) (d : PyData), vs = [.ref p, x] ∧ BookAt C H p s c q aw ∧ c ≤ 4 ∧ ((∃ z : Str, x = .str z ∧ z.length ≤ 1000000 ∧ d = dHist (histOf c z)) ∨ (NoText K H x ∧ d = .int 0)) ∧ ∀ v H', Same H H' → Hold 3 H' d v → Q v H'
theorem sc_rh : FnScope ["_law_book", "_law_text", "e"] ["_law_book", "_law_text"] (defScope (top 42)) := ⟨rfl, rfl, rfl, by decide +kernel, rfl, by decide +kernel, by decide +kernel⟩
theorem scanE_len {c : Int} : ∀ {r : List Str} {k : Nat} {es : List Ent}, scanE c k r = .ok es → es.length = r.length
  | [], k, es, h => by cases h; rfl
  | l :: r, k, es, h => by
    cases e : entOf l c with
    | none => rw [scanE_none e] at h; cases h
    | some x =>
      rw [scanE_go e] at h
      cases q : scanE c (k + 1) r with
      | error j => rw [q] at h; cases h
      | ok vs =>
        rw [q] at h
        cases h
        show vs.length + 1 = r.length + 1
        rw [scanE_len q]
theorem hist_len {c : Int} {z : Str} {es : List Ent} (h : histOf c z = .ok es) : es.length ≤ 400 := by
  by_cases h0 : z = Str.empty
  · rw [h0, hist_empty] at h
    cases h
    exact Nat.zero_le _
  · by_cases hn : (parts z 32).length > 400
    · rw [hist_many h0 hn] at h
      cases h
    · rw [hist_scan h0 hn] at h
      rw [scanE_len h]
      omega
section
variable {P : Program} {w : World} {K : PySem.W.Frag} {mg : Str → Option Value} {base : Heap}
theorem got_rh {Cb fB C : Addr} (T : Txt K mg) (B : Bad K mg Cb fB) (D : DefAt K mg "_law_read_history" (top 42)) (G : Got P w K mg base (L2.CX P w) 4 "read_history" ["book", "text"] (spRHist K Cb C)) : Got P w K mg base CX0 5 "_law_read_history" ["_law_book", "_law_text"] (spRH K C) := by
  obtain ⟨f1, fd1, F1, m1, k1, b1⟩ := G
  refine got0 D sc_rh (fun _ _ _ _ _ _ us hl => match us, hl with | [_, _], _ => rfl) (fun vs H Q E h => ?_) (fun f cdv A outer s0 H vs Q E hr h => ?_)
  · obtain ⟨p, s, c, q, aw, x, d, rfl, _⟩ := h
    rfl
  · obtain ⟨p, s, c, q, aw, x, d, rfl, BA, c4, hx, k⟩ := h
    refine ⟨_, pss_one (ps_try_as (i := 2) (tb := fun W => tRet (tCallS (spRHist K Cb C) (WE W) (tCons (tVar 0) (tCons (tVar 1) tNil)))) (ts := fun a cls d => tRet (tXf a cls d Cb "place" (tVar 2))) (Wout := fun _ _ _ _ => False) rfl rfl sc_rh.nd rfl rfl ⟨rfl, by decide, .inl B.gC⟩ takes0
        (fun W pn xe tk _ => pss_one (ps_ret (by exact (pe_callS F1 hr rfl m1 k1 b1 (fun σ => passAt tk σ) (by exact (pa_cons (pv 0) (pa_cons (pv 1) pa_nil)))))))
        (fun a oe cls d pn hz hf => pss_one (ps_ret (by exact (pe_xf B.xf B.noP hz hf (pv 2)))))), ?_⟩
    have caught : ∀ (n : Int) (H3 : Hp), d = .int n → Same H H3 → Q (.int n) H3 := fun n H3 e s1 => k _ _ s1 (by rw [e]; rfl)
    refine ⟨_, rfl, _, rfl, p, s, c, q, aw, x, rfl, BA, c4, ?_⟩
    rcases hx with ⟨z, rfl, hz, hd⟩ | ⟨⟨t, ty, kt⟩, hd⟩
    · refine .inl ⟨z, rfl, hz, fun n en dd H3 s3 h3 => ⟨true, B.te, fun _ a0 _ => ?_, fun q => Bool.noConfusion q⟩, fun es eb H3 t ae s3 dt st ee => ?_⟩
      · exact ⟨_, rfl, rfl, rfl, dd, _, _, rfl, h3, rfl, caught n H3 (by rw [hd, en]; rfl) s3⟩
      · refine k _ _ s3 ?_
        have := hist_len eb
        rw [← ee, ents_len] at this
        rw [hd, eb, ← ee]
        exact hold_ents dt st (by omega)
    · refine .inr ⟨t, ty, kt, fun dd H3 s3 h3 => ⟨true, B.te, fun _ a0 _ => ?_, fun q => Bool.noConfusion q⟩⟩
      exact ⟨_, rfl, rfl, rfl, dd, _, _, rfl, h3, rfl, caught 0 H3 hd s3⟩
end
end K3
/-! _law_changed_text: only how long the text may grow -/
namespace K3
open PySem PySem.Spec PyProof.Rows L2
theorem cat_length (x y : Str) : (x ++ y).length = x.length + y.length := by
  have hx : x = S (tl x) := str_iff.mpr rfl
  have hy : y = S (tl y) := str_iff.mpr rfl
  rw [hx, hy, SX.S_cat, show (S (tl x ++ tl y)).length = _ from SX.S_len _, show (S (tl x)).length = _ from SX.S_len _, show (S (tl y)).length = _ from SX.S_len _, List.length_append]
def cutP (ps : List Str) (lo hi : Option Int) : List Str := (ps.drop (HT.sIx ps.length 0 lo)).take (HT.sIx ps.length ps.length hi - HT.sIx ps.length 0 lo)
theorem cutV_str (ps : List Str) (lo hi : Option Int) : cutV (ps.map V.str) lo hi = (cutP ps lo hi).map V.str := by
  unfold cutV cutP
  rw [List.length_map, List.map_take, List.map_drop]
theorem wt_cut (ps : List Str) (lo hi : Option Int) : wt (cutP ps lo hi) ≤ wt ps := Nat.le_trans (wt_take _ _) (wt_drop _ _)
theorem ixN_nat {n j : Nat} (h : j < n) : ixN n (j : Int) = some j := by
  unfold ixN
  rw [if_pos (by omega), if_pos (by omega)]
  rfl
theorem set_str (ps : List Str) (j : Nat) (x : Str) : (ps.map V.str).set j (V.str x) = (ps.set j x).map V.str := List.map_set.symm
def signs : Str := "0123456789 :>-+book\n"
theorem signs_len : signs.cps.toList.length = 20 := by decide +kernel
def spChanged : Sp := fun vs H Q _ => ∃ (hd l : Addr) (z : Str) (k : Nat), vs = [.ref hd, .str z, .str (S [k])] ∧ k < 256 ∧ z.length ≤ 20000 ∧ HandAt hd l H ∧ ∀ (z' : Str) (H' : Hp), z'.length ≤ 3 * z.length + 13 → KeepBut hd H H' → HandAt hd l H' → Q (.str z') H'
theorem sc_changed : FnScope ["_law_hand_here", "_law_text", "_law_mark", "_law_parts", "_law_which", "_law_at", "_law_part", "_law_to", "_law_sign"] ["_law_hand_here", "_law_text", "_law_mark"] (defScope (top 43)) := ⟨rfl, rfl, rfl, by decide +kernel, rfl, by decide +kernel, by decide +kernel⟩
section
variable {P : Program} {w : World} {K : PySem.W.Frag} {mg : Str → Option Value} {base : Heap}
theorem got_changed (T : Txt K mg) (D : DefAt K mg "_law_changed_text" (top 43)) (G1 : Got P w K mg base CX0 2 "_law_draw" ["_law_hand_here", "_law_many"] spDraw) : Got P w K mg base CX0 3 "_law_changed_text" ["_law_hand_here", "_law_text", "_law_mark"] spChanged := by
  obtain ⟨f1, fd1, F1, m1, k1, b1⟩ := G1
  refine got0 D sc_changed (fun _ _ _ _ _ _ us hl => match us, hl with | [_, _, _], _ => rfl) (fun vs H Q E h => ?_) (fun f cdv A0 outer s0 H vs Q E hr h => ?_)
  · obtain ⟨hd, l, z, k, rfl, _⟩ := h
    rfl
  · obtain ⟨hd, l, z, k, rfl, hk, hz, hA, kQ⟩ := h
    refine ⟨_, pss_cons (ps_set (i := 3) sc_changed.nd rfl (.inl rfl) (pe_split (pv 1) (pv 2)))
      (pss_cons (ps_set (i := 4) sc_changed.nd rfl (.inl rfl) (pe_call F1 hr rfl m1 k1 b1 .nil pass0 (pa_cons (pv 0) (pa_cons pe_int pa_nil))))
      (pss_cons (ps_set (i := 5) sc_changed.nd rfl (.inl rfl) (pe_call F1 hr rfl m1 k1 b1 .nil pass0 (pa_cons (pv 0) (pa_cons (pe_len T.len (pv 3)) pa_nil))))
      (pss_cons (ps_set (i := 6) sc_changed.nd rfl (.inl rfl) (pe_ix ix_list (pv 3) (pv 5) (fun _ _ => rfl)))
      (pss_cons (ps_if (pt_cmpR op_eq (pv 4) pe_int (nomark _)) (pss_one (ps_ret (pe_join (pv 2) (pe_op op_cat (pe_slice sl_list (pv 3) po_none (po_some (pv 5))) (pe_slice sl_list (pv 3) (po_some (pe_op op_add (pv 5) pe_int)) po_none))))) pss_nil)
      (pss_cons (ps_if (pt_cmpR op_eq (pv 4) pe_int (nomark _)) (pss_one (ps_ret (pe_join (pv 2) (pe_op op_cat (pe_op op_cat (pe_slice sl_list (pv 3) po_none (po_some (pv 5))) (pe_lst (pa_cons (pv 6) pa_nil))) (pe_slice sl_list (pv 3) (po_some (pv 5)) po_none))))) pss_nil)
      (pss_cons (ps_if (pt_cmpR op_eq (pv 4) pe_int (nomark _))
        (pss_cons (ps_set (i := 7) sc_changed.nd rfl (.inl rfl) (pe_call F1 hr rfl m1 k1 b1 .nil pass0 (pa_cons (pv 0) (pa_cons (pe_len T.len (pv 3)) pa_nil))))
        (pss_cons (ps_asg (pe_ix ix_list (pv 3) (pv 7) (fun _ _ => rfl)) (pg_sub (pv 3) (pv 5) set_list))
        (pss_cons (ps_asg (pv 6) (pg_sub (pv 3) (pv 7) set_list))
        (pss_one (ps_ret (pe_join (pv 2) (pv 3))))))) pss_nil)
      (pss_cons (ps_if (pt_cmpR op_eq (pv 4) pe_int (nomark _)) (pss_one (ps_ret (pe_join (pv 2) (pe_op op_cat (pe_op op_cat (pe_slice sl_list (pv 3) po_none (po_some (pv 5)))
          (pe_lst (pa_cons (pe_ix ix_list (pe_lst (pa_cons pe_str (pa_cons pe_str (pa_cons pe_str (pa_cons pe_str (pa_cons pe_str (pa_cons pe_str pa_nil))))))) (pe_call F1 hr rfl m1 k1 b1 .nil pass0 (pa_cons (pv 0) (pa_cons pe_int pa_nil))) (fun _ _ => rfl)) pa_nil))) (pe_slice sl_list (pv 3) (po_some (pv 5)) po_none))))) pss_nil)
      (pss_cons (ps_set (i := 8) sc_changed.nd rfl (.inl rfl) (pe_ix ix_str pe_str (pe_call F1 hr rfl m1 k1 b1 .nil pass0 (pa_cons (pv 0) (pa_cons pe_int pa_nil))) (fun _ _ => rfl)))
      (pss_cons (ps_set (i := 7) sc_changed.nd rfl (.inl rfl) (pe_call F1 hr rfl m1 k1 b1 .nil pass0 (pa_cons (pv 0) (pa_cons (pe_op op_add (pe_lenS T.len (pv 6)) pe_int) pa_nil))))
      (pss_cons (ps_if (pt_cmpR op_eq (pv 4) pe_int (nomark _)) (pss_one (ps_asg (pe_op op_add_str (pe_op op_add_str (pe_slice sl_str (pv 6) po_none (po_some (pv 7))) (pv 8)) (pe_slice sl_str (pv 6) (po_some (pv 7)) po_none)) (pg_sub (pv 3) (pv 5) set_list)))
        (pss_one (ps_if (pt_cmpR op_eq (pv 4) pe_int (nomark _)) (pss_one (ps_asg (pe_op op_add_str (pe_op op_add_str (pe_slice sl_str (pv 6) po_none (po_some (pv 7))) (pv 8)) (pe_slice sl_str (pv 6) (po_some (pe_op op_add (pv 7) pe_int)) po_none)) (pg_sub (pv 3) (pv 5) set_list)))
          (pss_one (ps_asg (pe_op op_add_str (pe_slice sl_str (pv 6) po_none (po_some (pv 7))) (pe_slice sl_str (pv 6) (po_some (pe_op op_add (pv 7) pe_int)) po_none)) (pg_sub (pv 3) (pv 5) set_list))))))
      (pss_one (ps_ret (pe_join (pv 2) (pv 3)))))))))))))), ?_⟩
    have hmk : ((S [k]).length == 0) = false := by rw [show (S [k]).length = 1 from SX.S_len _]; rfl
    refine ⟨_, rfl, ⟨_, rfl⟩, _, rfl, z, _, rfl, rfl, hmk, small_line (by omega), fun L hL => ?_⟩
    have s1 : Same H (upd H L (.lst ((Txt.split z (S [k])).map V.str))) := Same.upd hL
    have dL : upd H L (.lst ((Txt.split z (S [k])).map V.str)) L = some (.lst ((parts z k).map V.str)) := upd_same
    generalize upd H L (.lst ((Txt.split z (S [k])).map V.str)) = H1 at s1 dL ⊢
    have nL : L ≠ hd := hA.new hL
    have hw : wt (parts z k) = z.length + 1 := wt_parts hk z
    have hn := wt_len (parts z k)
    have hpos : 0 < (parts z k).length := List.length_pos_iff.mpr (parts_ne hk z)
    generalize parts z k = ps at dL hw hn hpos
    have hA1 := hA.same s1
    refine ⟨_, rfl, hd, l, 7, rfl, hA1, by decide, by decide, fun wh H2 wh0 wh1 kb2 hA2 => ?_⟩
    have dL2 := kb2 _ _ dL nL
    refine ⟨_, rfl, _, rfl, L, _, rfl, .inl (.of dL2), hd, l, _, rfl, hA2, by rw [List.length_map]; omega, by rw [List.length_map]; omega, fun at0 H3 at1 at2 kb3 hA3 => ?_⟩
    rw [List.length_map] at at2
    obtain ⟨j, rfl⟩ : ∃ j : Nat, at0 = (j : Int) := ⟨at0.toNat, by omega⟩
    have dL3 := kb3 _ _ dL2 nL
    have kb : KeepBut hd H H3 := (s1.but.trans kb2).trans kb3
    obtain ⟨pt, hpt⟩ : ∃ pt, ps[j]? = some pt := ⟨_, List.getElem?_eq_getElem (by omega)⟩
    have lpt : pt.length + 1 ≤ z.length + 1 := by
      rw [← hw]
      exact wt_mem (List.mem_of_getElem? hpt)
    have ept : (ps.map V.str)[j]? = some (V.str pt) := by rw [List.getElem?_map, hpt]; rfl
    have hjn : ixN (ps.map V.str).length (j : Int) = some j := ixN_nat (by rw [List.length_map]; omega)
    have lenc : ∀ lo hi, (cutV (ps.map V.str) lo hi).length ≤ 20001 := fun lo hi => by
      have := cutV_length (ps.map V.str) lo hi
      rw [List.length_map] at this
      omega
    have sz : ∀ {n : Nat}, n ≤ 1000000 → n ≤ sizeLine := fun {n} h => Nat.le_of_lt (lt_line h)
    have fin : ∀ {H5 : Hp} {p : Addr} {qs : List Str}, KeepBut hd H H5 → HandAt hd l H5 → H5 p = some (.lst (qs.map V.str)) → wt qs ≤ 3 * z.length + 13 → ∃ a p', ∃ ys : List Str, V.str (S [k]) = .str a ∧ ([V.ref p] : List V) = [.ref p'] ∧ (SqL K H5 p' (ys.map V.str) ∨ SqT K H5 p' (ys.map V.str)) ∧
        (ys.map (·.length)).sum + ys.length * a.length ≤ 16777216 ∧ Q (.str (Txt.join a ys)) H5 := fun {H5 p qs} k5 h5 d5 w5 =>
      ⟨_, p, qs, rfl, rfl, .inl (.of d5), join_fit k (by omega), kQ _ _ (Nat.le_trans (join_len k qs) w5) k5 h5⟩
    refine ⟨_, rfl, _, rfl, L, _, _, _, rfl, rfl, .of dL3, atI_nat ept, ?_⟩
    refine ⟨_, rfl, rfl, _, rfl, ite2 (fun _ => ?_) (fun _ => ?_)⟩
    · refine ⟨_, rfl, ⟨_, rfl⟩, _, rfl, _, rfl, _, rfl, L, _, rfl, .of dL3, fun p1 hp1 => ?_⟩
      have e1 := Same.upd (o := .lst (cutV (ps.map V.str) none (some (j : Int)))) hp1
      refine ⟨_, rfl, _, rfl, _, _, rfl, rfl, _, rfl, L, _, rfl, .of (e1 _ _ dL3), fun p2 hp2 => ?_⟩
      have e2 := Same.upd (o := .lst (cutV (ps.map V.str) (some ((j : Int) + 1)) none)) hp2
      refine ⟨p1, p2, _, _, rfl, rfl, e2 _ _ upd_same, upd_same, ?_, fun p3 hp3 => ?_⟩
      · have h1 := lenc none (some (j : Int))
        have h2 := lenc (some ((j : Int) + 1)) none
        exact sz (by omega)
      · have e3 := (e1.trans e2).new (o := .lst (cutV (ps.map V.str) none (some (j : Int)) ++ cutV (ps.map V.str) (some ((j : Int) + 1)) none)) hp3
        refine fin (qs := cutP ps none (some (j : Int)) ++ cutP ps (some ((j : Int) + 1)) none) (kb.same e3) (hA3.same e3) ?_ ?_
        · rw [upd_same, cutV_str, cutV_str, List.map_append]
        · rw [wt_append]
          have h1 := wt_cut ps none (some (j : Int))
          have h2 := wt_cut ps (some ((j : Int) + 1)) none
          omega
    refine ⟨_, rfl, rfl, _, rfl, ite2 (fun _ => ?_) (fun _ => ?_)⟩
    · refine ⟨_, rfl, ⟨_, rfl⟩, _, rfl, _, rfl, _, rfl, L, _, rfl, .of dL3, fun p1 hp1 => ?_⟩
      have e1 := Same.upd (o := .lst (cutV (ps.map V.str) none (some (j : Int)))) hp1
      refine ⟨_, rfl, (by show 1 ≤ sizeLine; decide), fun p2 hp2 => ?_⟩
      have e2 := Same.upd (o := .lst [.str pt]) hp2
      refine ⟨p1, p2, _, _, rfl, rfl, e2 _ _ upd_same, upd_same, ?_, fun p3 hp3 => ?_⟩
      · have h1 := lenc none (some (j : Int))
        exact sz (by show _ + 1 ≤ _; omega)
      · have e3 := (e1.trans e2).new (o := .lst (cutV (ps.map V.str) none (some (j : Int)) ++ [.str pt])) hp3
        refine ⟨_, rfl, _, rfl, _, rfl, L, _, rfl, .of (e3 _ _ dL3), fun p4 hp4 => ?_⟩
        have e4 := Same.upd (o := .lst (cutV (ps.map V.str) (some (j : Int)) none)) hp4
        refine ⟨p3, p4, _, _, rfl, rfl, e4 _ _ upd_same, upd_same, ?_, fun p5 hp5 => ?_⟩
        · have h1 := lenc none (some (j : Int))
          have h2 := lenc (some (j : Int)) none
          rw [List.length_append]
          exact sz (by show _ + 1 + _ ≤ _; omega)
        · have e5 := (e3.trans e4).new (o := .lst (cutV (ps.map V.str) none (some (j : Int)) ++ [.str pt] ++ cutV (ps.map V.str) (some (j : Int)) none)) hp5
          refine fin (qs := cutP ps none (some (j : Int)) ++ [pt] ++ cutP ps (some (j : Int)) none) (kb.same e5) (hA3.same e5) ?_ ?_
          · rw [upd_same, cutV_str, cutV_str, List.map_append, List.map_append]
            rfl
          · rw [wt_append, wt_append, wt_cons]
            have h1 := wt_cut ps none (some (j : Int))
            have h2 := wt_cut ps (some (j : Int)) none
            show _ + (pt.length + 1 + 0) + _ ≤ _
            omega
    refine ⟨_, rfl, rfl, _, rfl, ite2 (fun _ => ?_) (fun _ => ?_)⟩
    · refine ⟨_, rfl, _, rfl, L, _, rfl, .inl (.of dL3), hd, l, _, rfl, hA3, by rw [List.length_map]; omega, by rw [List.length_map]; omega, fun to0 H4 to1 to2 kb4 hA4 => ?_⟩
      rw [List.length_map] at to2
      obtain ⟨m, rfl⟩ : ∃ m : Nat, to0 = (m : Int) := ⟨to0.toNat, by omega⟩
      have dL4 := kb4 _ _ dL3 nL
      obtain ⟨pm, hpm⟩ : ∃ pm, ps[m]? = some pm := ⟨_, List.getElem?_eq_getElem (by omega)⟩
      have lpm : pm.length + 1 ≤ z.length + 1 := by
        rw [← hw]
        exact wt_mem (List.mem_of_getElem? hpm)
      have epm : (ps.map V.str)[m]? = some (V.str pm) := by rw [List.getElem?_map, hpm]; rfl
      refine ⟨_, rfl, _, rfl, L, _, _, _, rfl, rfl, .of dL4, atI_nat epm, _, rfl, _, rfl, L, _, _, j, rfl, rfl, dL4, hjn, ?_⟩
      refine ⟨_, rfl, _, rfl, _, rfl, L, _, _, m, rfl, rfl, upd_same, ixN_nat (by rw [List.length_set, List.length_map]; omega), ?_⟩
      refine ⟨_, rfl, ⟨_, rfl⟩, _, rfl, ?_⟩
      have k4 : KeepBut hd H1 H4 := kb2.trans (kb3.trans kb4)
      have w1 := wt_set pm ps j
      have w2 := wt_set pt (ps.set j pm) m
      have n1 : H L = none := hL
      refine fin (qs := (ps.set j pm).set m pt) (((s1.but.trans k4).set hL).set hL) (hA.set hL (hA.set hL hA4)) ?_ (by omega)
      rw [upd_same, set_str, set_str]
    refine ⟨_, rfl, rfl, _, rfl, ite2 (fun _ => ?_) (fun _ => ?_)⟩
    · refine ⟨_, rfl, ⟨_, rfl⟩, _, rfl, _, rfl, _, rfl, L, _, rfl, .of dL3, fun p1 hp1 => ?_⟩
      have e1 := Same.upd (o := .lst (cutV (ps.map V.str) none (some (j : Int)))) hp1
      have np1 : p1 ≠ hd := hA3.new hp1
      refine ⟨(by show 6 ≤ sizeLine; decide), fun q hq => ?_⟩
      have e2 := e1.new (o := .lst [.str "", .str "0", .str "book 2 2", .str "0 0 0 0", .str "0:0>0", .str "9:0>2"]) hq
      have hA5 := hA3.same e2
      have nq : q ≠ hd := (hA3.same e1).new hq
      refine ⟨_, rfl, hd, l, 6, rfl, hA5, by decide, by decide, fun r H6 r0 r1 kb6 hA6 => ?_⟩
      have dq := kb6 q _ upd_same nq
      have dp1 := kb6 p1 _ (Same.upd hq _ _ upd_same) np1
      have dL6 := kb6 L _ (e2 _ _ dL3) nL
      obtain ⟨i, rfl⟩ : ∃ i : Nat, r = (i : Int) := ⟨r.toNat, by omega⟩
      obtain ⟨u, hu, lu⟩ : ∃ u : Str, ([.str "", .str "0", .str "book 2 2", .str "0 0 0 0", .str "0:0>0", .str "9:0>2"] : List V)[i]? = some (.str u) ∧ u.length ≤ 8 := by
        match i, r1 with
        | 0, _ => exact ⟨_, rfl, by decide +kernel⟩
        | 1, _ => exact ⟨_, rfl, by decide +kernel⟩
        | 2, _ => exact ⟨_, rfl, by decide +kernel⟩
        | 3, _ => exact ⟨_, rfl, by decide +kernel⟩
        | 4, _ => exact ⟨_, rfl, by decide +kernel⟩
        | 5, _ => exact ⟨_, rfl, by decide +kernel⟩
        | n + 6, h => exact absurd h (by omega)
      refine ⟨q, _, _, _, rfl, rfl, .of dq, atI_nat hu, (by show 1 ≤ sizeLine; decide), fun p2 hp2 => ?_⟩
      have e7 := Same.upd (o := .lst [.str u]) hp2
      refine ⟨p1, p2, _, _, rfl, rfl, e7 _ _ dp1, upd_same, ?_, fun p3 hp3 => ?_⟩
      · have h1 := lenc none (some (j : Int))
        exact sz (by show _ + 1 ≤ _; omega)
      · have e8 := e7.new (o := .lst (cutV (ps.map V.str) none (some (j : Int)) ++ [.str u])) hp3
        refine ⟨_, rfl, _, rfl, _, rfl, L, _, rfl, .of (e8 _ _ dL6), fun p4 hp4 => ?_⟩
        have e9 := Same.upd (o := .lst (cutV (ps.map V.str) (some (j : Int)) none)) hp4
        refine ⟨p3, p4, _, _, rfl, rfl, e9 _ _ upd_same, upd_same, ?_, fun p5 hp5 => ?_⟩
        · have h1 := lenc none (some (j : Int))
          have h2 := lenc (some (j : Int)) none
          rw [List.length_append]
          exact sz (by show _ + 1 + _ ≤ _; omega)
        · have e10 := (e8.trans e9).new (o := .lst (cutV (ps.map V.str) none (some (j : Int)) ++ [.str u] ++ cutV (ps.map V.str) (some (j : Int)) none)) hp5
          refine fin (qs := cutP ps none (some (j : Int)) ++ [u] ++ cutP ps (some (j : Int)) none) (((kb.same e2).trans kb6).same e10) (hA6.same e10) ?_ ?_
          · rw [upd_same, cutV_str, cutV_str, List.map_append, List.map_append]
            rfl
          · rw [wt_append, wt_append, wt_cons]
            have h1 := wt_cut ps none (some (j : Int))
            have h2 := wt_cut ps (some (j : Int)) none
            show _ + (u.length + 1 + 0) + _ ≤ _
            omega
    -- a sign
    refine ⟨_, rfl, hd, l, 20, rfl, hA3, by decide, by decide, fun r H4 r0 r1 kb4 hA4 => ?_⟩
    obtain ⟨i, rfl⟩ : ∃ i : Nat, r = (i : Int) := ⟨r.toNat, by omega⟩
    obtain ⟨ch, hch⟩ : ∃ ch, signs.cps.toList[i]? = some ch := ⟨_, List.getElem?_eq_getElem (by rw [signs_len]; omega)⟩
    refine ⟨_, _, ch, rfl, rfl, (by decide +kernel), atI_nat hch, ?_⟩
    refine ⟨_, rfl, _, rfl, pt, rfl, sz (by omega), _, _, rfl, rfl, hd, l, _, rfl, hA4, by omega, by omega, fun to0 H5 to1 to2 kb5 hA5 => ?_⟩
    have kb15 : KeepBut hd H H5 := (kb.trans kb4).trans kb5
    have dL5 := kb5 _ _ (kb4 _ _ dL3 nL) nL
    have lch : ((⟨#[ch]⟩ : Str)).length = 1 := rfl
    have szp : pt.length ≤ sizeLine := sz (by omega)
    have done : ∀ {x : Str}, x.length ≤ 2 * pt.length + 1 → wt (ps.set j x) ≤ 3 * z.length + 13 := fun {x} hx => by
      have := wt_set x ps j
      omega
    refine ⟨_, rfl, rfl, _, rfl, ite2 (fun _ => ?_) (fun _ => ?_)⟩
    · have h1 := cutS_length pt none (some to0)
      have h2 := cutS_length pt (some to0) none
      have h3 := cat_length (cutS pt none (some to0)) ⟨#[ch]⟩
      have h4 := cat_length (cutS pt none (some to0) ++ ⟨#[ch]⟩) (cutS pt (some to0) none)
      refine ⟨_, rfl, _, rfl, _, rfl, pt, rfl, szp, _, rfl, _, _, rfl, rfl, sz (by omega), _, rfl, _, rfl, _, rfl, pt, rfl, szp, _, _, rfl, rfl, sz (by omega), _, rfl, _, rfl, L, _, _, j, rfl, rfl, dL5, hjn, ?_⟩
      refine ⟨_, rfl, ⟨_, rfl⟩, _, rfl, ?_⟩
      refine fin (qs := ps.set j (cutS pt none (some to0) ++ ⟨#[ch]⟩ ++ cutS pt (some to0) none)) (kb15.set hL) (hA.set hL hA5) ?_ (done (by omega))
      rw [upd_same, set_str]
    refine ⟨_, rfl, rfl, _, rfl, ite2 (fun _ => ?_) (fun _ => ?_)⟩
    · have h1 := cutS_length pt none (some to0)
      have h2 := cutS_length pt (some (to0 + 1)) none
      have h3 := cat_length (cutS pt none (some to0)) ⟨#[ch]⟩
      have h4 := cat_length (cutS pt none (some to0) ++ ⟨#[ch]⟩) (cutS pt (some (to0 + 1)) none)
      refine ⟨_, rfl, _, rfl, _, rfl, pt, rfl, szp, _, rfl, _, _, rfl, rfl, sz (by omega), _, rfl, _, rfl, _, _, rfl, rfl, _, rfl, pt, rfl, szp, _, _, rfl, rfl, sz (by omega), _, rfl, _, rfl, L, _, _, j, rfl, rfl, dL5, hjn, ?_⟩
      refine ⟨_, rfl, ⟨_, rfl⟩, _, rfl, ?_⟩
      refine fin (qs := ps.set j (cutS pt none (some to0) ++ ⟨#[ch]⟩ ++ cutS pt (some (to0 + 1)) none)) (kb15.set hL) (hA.set hL hA5) ?_ (done (by omega))
      rw [upd_same, set_str]
    · have h1 := cutS_length pt none (some to0)
      have h2 := cutS_length pt (some (to0 + 1)) none
      have h4 := cat_length (cutS pt none (some to0)) (cutS pt (some (to0 + 1)) none)
      refine ⟨_, rfl, _, rfl, _, rfl, pt, rfl, szp, _, rfl, _, rfl, _, _, rfl, rfl, _, rfl, pt, rfl, szp, _, _, rfl, rfl, sz (by omega), _, rfl, _, rfl, L, _, _, j, rfl, rfl, dL5, hjn, ?_⟩
      refine ⟨_, rfl, ⟨_, rfl⟩, _, rfl, ?_⟩
      refine fin (qs := ps.set j (cutS pt none (some to0) ++ cutS pt (some (to0 + 1)) none)) (kb15.set hL) (hA.set hL hA5) ?_ (done (by omega))
      rw [upd_same, set_str]
end
end K3
/-! law: its end, from «for _law_turn» on -/
namespace K3
open PySem PySem.Spec PyProof.Rows L2
/-- what the law calls -/
structure LawG (P : Program) (w : World) (K : PySem.W.Frag) (mg : Str → Option Value) (base : Heap) (Cb fB C fI fE : Addr) : Prop where
  T : Txt K mg
  B : Bad K mg Cb fB
  BC : BookC K mg C fI fE
  whole : Got P w K mg base CX0 1 "is_whole" ["thing", "low", "high"] spWhole
  check : Got P w K mg base CX0 3 "_check_ways" ["states", "calls", "ways"] spCheck
  hand : Got P w K mg base CX0 1 "_law_hand" ["_law_script"] (spHand K)
  draw : Got P w K mg base CX0 2 "_law_draw" ["_law_hand_here", "_law_many"] spDraw
  large : Got P w K mg base CX0 4 "_law_large_book" ["_law_hand_here"] spLarge
  told : Got P w K mg base CX0 1 "_law_told_book" ["_law_states", "_law_calls", "_law_ways_here"] spTold
  text : Got P w K mg base CX0 1 "book_text" ["book"] (spText C)
  read : Got P w K mg base (L2.CX P w) 6 "read_book" ["text"] (spRead K Cb C)
  entries : Got P w K mg base CX0 3 "_law_entries" ["_law_hand_here", "_law_calls", "_law_most"] spEntries
  histT : Got P w K mg base CX0 1 "history_text" ["history"] spHistT
  exact4 : Got P w K mg base CX0 5 "_law_exact" ["_law_told", "_law_due"] (spExact 4)
  rb : Got P w K mg base CX0 7 "_law_read_book" ["_law_text"] (spRB K)
  rh : Got P w K mg base CX0 5 "_law_read_history" ["_law_book", "_law_text"] (spRH K C)
  due : Got P w K mg base CX0 2 "_law_due_book" ["_law_text"] spDue
  dh : Got P w K mg base CX0 1 "_law_due_history" ["_law_calls", "_law_text"] spDH
  changed : Got P w K mg base CX0 3 "_law_changed_text" ["_law_hand_here", "_law_text", "_law_mark"] spChanged
/-- what stands all along -/
structure LawSt (C hd l bk qb qt : Addr) (s c : Int) (aw kw : List AW) (H : Hp) : Prop where
  hA : HandAt hd l H
  bkA : BookAt C H bk s c qb aw
  wq : H qt = some (.tup (adr kw))
  wst : Stand H kw
  ok : BookOk s c (wys kw)
theorem LawSt.same {C hd l bk qb qt : Addr} {s c : Int} {aw kw : List AW} {H H' : Hp} (e : Same H H') (h : LawSt C hd l bk qb qt s c aw kw H) : LawSt C hd l bk qb qt s c aw kw H' := ⟨h.hA.same e, h.bkA.same e, e _ _ h.wq, h.wst.same e, h.ok⟩
theorem LawSt.keep {C hd l bk qb qt : Addr} {s c : Int} {aw kw : List AW} {H H' : Hp} (k : KeepBut hd H H') (h : LawSt C hd l bk qb qt s c aw kw H) (hA : HandAt hd l H') : LawSt C hd l bk qb qt s c aw kw H' := by
  obtain ⟨⟨dx, hp⟩, hq, hst⟩ := h.bkA
  obtain ⟨xs, hx⟩ := h.hA.get
  exact ⟨hA, ⟨⟨dx, k _ _ hp (ne_of hp hx (fun z => by cases z))⟩, h.hA.keep k hq, h.hA.stand k hst⟩, h.hA.keep k h.wq, h.hA.stand k h.wst, h.ok⟩
def NL : List Str := ["_law_script", "_law_hand_here", "_law_states", "_law_calls", "_law_ways_here", "_law_book", "_law_text", "_law_told", "_law_rows", "_law_line", "_law_turn", "_law_odd", "_law_line_odd", "_law_change", "_law_other", "_law_k", "_law_one"]
theorem sc_law : FnScope NL ["_law_script"] (defScope (top 44)) := ⟨rfl, rfl, rfl, by decide +kernel, rfl, by decide +kernel, by decide +kernel⟩
theorem hold_more {H : Hp} {d : PyData} {v : V} (h : Hold 3 H d v) : Hold 4 H d v := h.mono
section
variable {P : Program} {w : World} {K : PySem.W.Frag} {mg : Str → Option Value} {base : Heap}
/-- the law's context -/
abbrev XL (P : Program) (w : World) (K : PySem.W.Frag) (mg : Str → Option Value) (base : Heap) (f : Addr) (cdv : Value) (A : Around) (outer : List Env) (s0 : Shared) (H : Hp) (E : XK) : Cx := (cxOf CX0 P w K mg base NL "law" (defScope (top 44)) f cdv A outer s0 H E).nox
theorem law_end {Cb fB C fI fE : Addr} (G : LawG P w K mg base Cb fB C fI fE) {f : Addr} {cdv : Value} {A : Around} {outer : List Env} {s0 : Shared} {HS : Hp} {E : XK} (hr : Room 7 (A.deeper (envOfC "law" (defScope (top 44)) s0.heap.objs.size f cdv))) :
    ∃ t, PSs (XL P w K mg base f cdv A outer s0 HS E) ((defBody (top 44)).drop 11) t ∧ ∀ (D : Ends) (H : Hp) (a0 a7 a8 : Option V) (hd l bk qb qt : Addr) (s c : Int) (aw kw : List AW) (zl : Str), (∀ H', D.rt (.bl true) H') → LawSt C hd l bk qb qt s c aw kw H → zl.length ≤ 4000 →
      t D [a0, some (.ref hd), some (.int s), some (.int c), some (.ref qt), some (.ref bk), some (.str (bookT s c (wys kw))), a7, a8, some (.str zl), none, none, none, none, none, none, none] H := by
  obtain ⟨fd, fdd, FD, md, kd, bd⟩ := G.draw
  obtain ⟨fx, fdx, FX, mx, kx, bx⟩ := G.exact4
  obtain ⟨f1, fd1, F1, m1, k1, b1⟩ := G.rb
  obtain ⟨f2, fd2, F2, m2, k2, b2⟩ := G.rh
  obtain ⟨f3, fd3, F3, m3, k3, b3⟩ := G.due
  obtain ⟨f4, fd4, F4, m4, k4, b4⟩ := G.dh
  obtain ⟨f5, fd5, F5, m5, k5, b5⟩ := G.changed
  have T := G.T
  have hr5 : Room 5 _ := hr.mono (by decide)
  have hr3 : Room 3 _ := hr.mono (by decide)
  have hr2 : Room 2 _ := hr.mono (by decide)
  have hr1 : Room 1 _ := hr.mono (by decide)
  refine ⟨_, pss_cons (ps_for PassesOwn.never rfl (pi_range1 rfl T.range (pa_cons pe_int pa_nil)) (pg_name (i := 10) sc_law.nd rfl (.inl rfl))
      (pss_cons (ps_set (i := 11) sc_law.nd rfl (.inl rfl) (pv 6))
      (pss_cons (ps_set (i := 12) sc_law.nd rfl (.inl rfl) (pv 9))
      (pss_cons (ps_for PassesOwn.never rfl (pi_range1 rfl T.range (pa_cons (pe_op op_add pe_int (pe_op op_fdiv (pv 10) pe_int)) pa_nil)) (pg_name (i := 13) sc_law.nd rfl (.inl rfl))
        (pss_cons (ps_set (i := 11) sc_law.nd rfl (.inl rfl) (pe_call F5 hr3 rfl m5 k5 b5 .nil pass0 (pa_cons (pv 1) (pa_cons (pv 11) (pa_cons pe_str pa_nil)))))
        (pss_one (ps_set (i := 12) sc_law.nd rfl (.inl rfl) (pe_call F5 hr3 rfl m5 k5 b5 .nil pass0 (pa_cons (pv 1) (pa_cons (pv 12) (pa_cons pe_str pa_nil))))))))
      (pss_cons (ps_if (pt_not (pt_val (pe_call FX hr5 rfl mx kx bx .nil pass0 (pa_cons (pe_call F1 hr rfl m1 k1 b1 .nil pass0 (pa_cons (pv 11) pa_nil)) (pa_cons (pe_call F3 hr2 rfl m3 k3 b3 .nil pass0 (pa_cons (pv 11) pa_nil)) pa_nil))))) (pss_one (ps_ret pe_bl)) pss_nil)
      (pss_one (ps_if (pt_not (pt_val (pe_call FX hr5 rfl mx kx bx .nil pass0 (pa_cons (pe_call F2 hr5 rfl m2 k2 b2 .nil pass0 (pa_cons (pv 5) (pa_cons (pv 12) pa_nil))) (pa_cons (pe_call F4 hr1 rfl m4 k4 b4 .nil pass0 (pa_cons (pv 3) (pa_cons (pv 12) pa_nil))) pa_nil))))) (pss_one (ps_ret pe_bl)) pss_nil)))))))
    (pss_cons (ps_set (i := 14) sc_law.nd rfl (.inl rfl) (pe_ix ix_list (pe_lst (pa_cons pe_non (pa_cons pe_int (pa_cons pe_bl (pa_cons (pe_tup (pa_cons (pv 6) pa_nil)) pa_nil))))) (pe_call FD hr2 rfl md kd bd .nil pass0 (pa_cons (pv 1) (pa_cons pe_int pa_nil))) (fun _ _ => rfl)))
    (pss_cons (ps_if (PW.pt (pw_or (pt_not (pt_val (pe_call FX hr5 rfl mx kx bx .nil pass0 (pa_cons (pe_call F1 hr rfl m1 k1 b1 .nil pass0 (pa_cons (pv 14) pa_nil)) (pa_cons pe_int pa_nil)))))
        (pw_or1 (pt_not (pt_val (pe_call FX hr5 rfl mx kx bx .nil pass0 (pa_cons (pe_call F2 hr5 rfl m2 k2 b2 .nil pass0 (pa_cons (pv 5) (pa_cons (pv 14) pa_nil))) (pa_cons pe_int pa_nil)))))))) (pss_one (ps_ret pe_bl)) pss_nil)
    (pss_one (ps_ret (pe_call FX hr5 rfl mx kx bx .nil pass0 (pa_cons (pe_call F1 hr rfl m1 k1 b1 .nil pass0 (pa_cons (pv 6) pa_nil)) (pa_cons (pe_tup (pa_cons (pv 2) (pa_cons (pv 3) (pa_cons (pv 4) pa_nil)))) pa_nil))))))), ?_⟩
  intro D H a0 a7 a8 hd l bk qb qt s c aw kw zl hD LS hzl
  have c1 := LS.ok.c1
  have c4 := LS.ok.c4
  have hzb : (bookT s c (wys kw)).length ≤ 4000 := bookT_len s c LS.ok.len
  refine ⟨_, rfl, by decide, by decide, for_range (lo := 0) (n := 4) (fun i σ H2 => LawSt C hd l bk qb qt s c aw kw H2 ∧ ∃ a10 a11 a12 a13, σ = [a0, some (.ref hd), some (.int s), some (.int c), some (.ref qt), some (.ref bk), some (.str (bookT s c (wys kw))), a7, a8, some (.str zl), a10, a11, a12, a13, none, none, none])
    ⟨LS, none, none, none, none, rfl⟩ ?_ ?_⟩
  · rintro i σ H2 hi ⟨L2, a10, a11, a12, a13, rfl⟩
    refine ⟨_, rfl, _, rfl, ?_⟩
    refine ⟨_, rfl, _, _, rfl, rfl, ⟨by decide, by decide⟩, _, _, rfl, rfl, _, rfl, by omega, by omega, for_range (lo := 0) (n := (1 + (0 + (i : Int)) / 2).toNat) (fun j σ H3 => LawSt C hd l bk qb qt s c aw kw H3 ∧ ∃ (zo zlo : Str) (a13 : Option V), σ = [a0, some (.ref hd), some (.int s), some (.int c), some (.ref qt), some (.ref bk), some (.str (bookT s c (wys kw))), a7, a8, some (.str zl), some (.int (0 + i)), some (.str zo), some (.str zlo), a13, none, none, none] ∧
        (j = 0 → zo.length ≤ 4000 ∧ zlo.length ≤ 4000) ∧ (j = 1 → zo.length ≤ 12013 ∧ zlo.length ≤ 12013) ∧ zo.length ≤ 100000 ∧ zlo.length ≤ 100000)
      ⟨L2, _, _, a13, rfl, fun _ => ⟨hzb, hzl⟩, fun h => by omega, by omega, by omega⟩ ?_ ?_⟩
    · rintro j σ H3 hj ⟨L3, zo, zlo, a13, rfl, h0, h1, _, _⟩
      have hj2 : j = 0 ∨ j = 1 := by omega
      refine ⟨_, rfl, _, rfl, hd, l, zo, 10, by rw [t_line]; rfl, by decide, by omega, L3.hA, fun zo' H4 lz kb4 hA4 => ?_⟩
      have L4 := L3.keep kb4 hA4
      refine ⟨_, rfl, _, rfl, hd, l, zlo, 32, by rw [t_blank]; rfl, by decide, by omega, L4.hA, fun zlo' H5 lz2 kb5 hA5 => ?_⟩
      exact ⟨L4.keep kb5 hA5, zo', zlo', _, rfl, fun h => by omega, fun h => by omega, by omega, by omega⟩
    · rintro σ H3 ⟨L3, zo, zlo, a13, rfl, _, _, l1, l2⟩
      refine ⟨_, rfl, .str zo, _, rfl, .inl ⟨zo, rfl, by omega, rfl⟩, fun v1 H4 e4 w1 => ⟨_, rfl, zo, rfl, by omega, fun v2 H5 e5 w2 => ⟨v1, v2, _, rfl, w1.same e5, w2, fun H6 e6 => ⟨true, rfl, iteF ?_⟩⟩⟩⟩
      have L6 := ((L3.same e4).same e5).same e6
      refine ⟨_, rfl, _, rfl, bk, s, c, qb, aw, .str zlo, _, rfl, L6.bkA, c4, .inl ⟨zlo, rfl, by omega, rfl⟩, fun v1 H7 e7 w1 => ⟨_, rfl, _, rfl, c, zlo, rfl, c1, c4, by omega, fun v2 H8 e8 w2 => ⟨v1, v2, _, rfl, hold_more (w1.same e8), hold_more w2, fun H9 e9 => ⟨true, rfl, iteF ?_⟩⟩⟩⟩
      exact ⟨((L6.same e7).same e8).same e9, _, _, _, _, rfl⟩
  · rintro σ H2 ⟨L2, a10, a11, a12, a13, rfl⟩
    refine ⟨_, rfl, (by show 1 ≤ sizeLine; decide), fun t ht => ⟨(by show 4 ≤ sizeLine; decide), fun q hq => ?_⟩⟩
    have e3 := (Same.upd (o := .tup [.str (bookT s c (wys kw))]) ht).new (o := .lst [.non, .int 3, .bl true, .ref t]) hq
    have L3 := L2.same e3
    have nt : t ≠ hd := L2.hA.new ht
    have nq : q ≠ hd := (L2.hA.same (Same.upd (o := .tup [.str (bookT s c (wys kw))]) ht)).new hq
    have dt := Same.upd (o := .lst [.non, .int 3, .bl true, .ref t]) hq _ _ (upd_same (H := H2) (a := t) (o := .tup [.str (bookT s c (wys kw))]))
    refine ⟨_, rfl, hd, l, 4, rfl, L3.hA, by decide, by decide, fun r H4 r0 r1 kb4 hA4 => ?_⟩
    have L4 := L3.keep kb4 hA4
    have dq4 := kb4 q _ upd_same nq
    have dt4 := kb4 t _ dt nt
    obtain ⟨i, rfl⟩ : ∃ i : Nat, r = (i : Int) := ⟨r.toNat, by omega⟩
    obtain ⟨x, hx, nx⟩ : ∃ x : V, ([.non, .int 3, .bl true, .ref t] : List V)[i]? = some x ∧ ∀ H', Same H4 H' → NoText K H' x := by
      match i, r1 with
      | 0, _ => exact ⟨_, rfl, fun H' e => ⟨_, .base .non, kit_ty (by decide +kernel)⟩⟩
      | 1, _ => exact ⟨_, rfl, fun H' e => ⟨_, .base (.int 3), kit_ty (by decide +kernel)⟩⟩
      | 2, _ => exact ⟨_, rfl, fun H' e => ⟨_, .base (.bl true), kit_ty (by decide +kernel)⟩⟩
      | 3, _ => exact ⟨_, rfl, fun H' e => ⟨_, .base (.tup (e _ _ dt4)), kit_ty (by decide +kernel)⟩⟩
      | n + 4, h => exact absurd h (by omega)
    refine ⟨q, _, _, x, rfl, rfl, .of dq4, atI_nat hx, ?_⟩
    refine ⟨_, rfl, x, _, rfl, .inr ⟨nx _ (Same.refl _), rfl⟩, fun v1 H5 e5 w1 => ⟨v1, .int 0, _, rfl, w1, rfl, fun H6 e6 => ⟨true, rfl, iteF ?_⟩⟩⟩
    have L6 := (L4.same e5).same e6
    refine ⟨_, rfl, _, rfl, bk, s, c, qb, aw, x, _, rfl, L6.bkA, c4, .inr ⟨nx _ (e5.trans e6), rfl⟩, fun v1 H7 e7 w1 => ⟨v1, .int 0, _, rfl, hold_more w1, rfl, fun H8 e8 => ⟨true, rfl, iteF ?_⟩⟩⟩
    have L8 := (L6.same e7).same e8
    refine ⟨_, rfl, _, _, rfl, .inl ⟨_, rfl, by omega, rfl⟩, fun v1 H9 e9 w1 => ⟨_, rfl, _, rfl, _, rfl, (by show 3 ≤ sizeLine; decide), fun u hu => ?_⟩⟩
    have L9 := L8.same e9
    rw [book_back LS.ok] at w1
    have len : kw.length ≤ 1000 := by
      have := LS.ok.len
      rw [wys_len] at this
      omega
    exact ⟨v1, .ref u, _, rfl, w1.same (Same.upd hu), hold_book upd_same (Same.upd hu _ _ L9.wq) (L9.wst.same (Same.upd hu)) len, fun H10 e10 => hD H10⟩
end
end K3
/-! law: its middle, from «_law_line =» on -/
namespace K3
open PySem PySem.Spec PyProof.Rows L2
def rListT (K : PySem.W.Frag) : List V → Hp → VK → Prop := fun xs H Q => ∃ p ys, xs = [V.ref p] ∧ SqT K H p ys ∧ ∀ l, H l = none → Q (.ref l) (upd H l (.lst ys))
theorem call_listTT {X : Cx} : CallR X (.type "list") (rListT X.K) := by
  intro pins s σ H xs us Q I r h
  obtain ⟨p, ys, e, q, k⟩ := h
  exact call_list_of pins s σ H xs us Q I r ⟨p, ys, e, .inr q, k⟩
def tOneE (K : PySem.W.Frag) : TE := fun σ H Q => tJs [tFmt (tOp (rIxT K) (tVar 16) (tC (.int 0))), tC (V.str (Str.ofString ":")), tFmt (tOp (rIxT K) (tVar 16) (tC (.int 1))), tC (V.str (Str.ofString ">")), tFmt (tOp (rIxT K) (tVar 16) (tC (.int 2)))] Str.empty σ H fun out H1 => Q (V.str out) H1
section
variable {P : Program} {w : World} {K : PySem.W.Frag} {mg : Str → Option Value} {base : Heap}
theorem law_mid {Cb fB C fI fE : Addr} (G : LawG P w K mg base Cb fB C fI fE) {f : Addr} {cdv : Value} {A : Around} {outer : List Env} {s0 : Shared} {HS : Hp} {E : XK} (hr : Room 7 (A.deeper (envOfC "law" (defScope (top 44)) s0.heap.objs.size f cdv))) :
    ∃ t, PSs (XL P w K mg base f cdv A outer s0 HS E) ((defBody (top 44)).drop 8) t ∧ ∀ (D : Ends) (H : Hp) (a0 a7 : Option V) (hd l bk qb qt R : Addr) (s c : Int) (aw kw : List AW) (ae : List AE), (∀ H', D.rt (.bl true) H') → LawSt C hd l bk qb qt s c aw kw H →
      H R = some (.lst (adrE ae)) → StandE H ae → ae.length ≤ 401 → (∀ e ∈ ents ae, e.ok c) →
      t D [a0, some (.ref hd), some (.int s), some (.int c), some (.ref qt), some (.ref bk), some (.str (bookT s c (wys kw))), a7, some (.ref R), none, none, none, none, none, none, none, none] H := by
  obtain ⟨te, pe', he⟩ := law_end (HS := HS) (E := E) (outer := outer) G hr
  obtain ⟨fx, fdx, FX, mx, kx, bx⟩ := G.exact4
  obtain ⟨f2, fd2, F2, m2, k2, b2⟩ := G.rh
  obtain ⟨f4, fd4, F4, m4, k4, b4⟩ := G.dh
  obtain ⟨f5, fd5, F5, m5, k5, b5⟩ := G.histT
  have T := G.T
  have hr5 : Room 5 _ := hr.mono (by decide)
  have hr1 : Room 1 _ := hr.mono (by decide)
  refine ⟨_, pss_cons (ps_set (i := 9) sc_law.nd rfl (.inl rfl) (pe_join pe_str (pe_lc (own := [("_law_one", 16)]) (g := gName 16) (tt := tYes) (te := tOneE K) rfl sc_law.nd (pi_list (pv 8)) (blkOk_by (own := [("_law_one", 16)]) (N := NL) (sc := defScope (top 44)) (by decide +kernel))
        (fun _ _ _ _ _ => pg_name (i := 16) sc_law.nd rfl (.inl rfl)) (fun _ _ _ _ _ => pts_nil)
        (fun _ _ _ _ _ => pe_joined (.cons (pe_fmt (pe_ix ix_tup (pv 16) pe_int (fun _ _ => rfl))) (.cons pe_str (.cons (pe_fmt (pe_ix ix_tup (pv 16) pe_int (fun _ _ => rfl))) (.cons pe_str (.cons (pe_fmt (pe_ix ix_tup (pv 16) pe_int (fun _ _ => rfl))) .nil)))))))))
    (pss_cons (ps_if (PW.pt (pw_or (pt_not (pt_val (pe_call FX hr5 rfl mx kx bx .nil pass0 (pa_cons (pe_call F5 hr1 rfl m5 k5 b5 .nil pass0 (pa_cons
          (pe_lc (own := [("_law_one", 16)]) (g := gName 16) (tt := tYes) (te := tCB (rListT K) (tCons (tVar 16) tNil)) rfl sc_law.nd (pi_list (pv 8)) (blkOk_by (own := [("_law_one", 16)]) (N := NL) (sc := defScope (top 44)) (by decide +kernel))
            (fun _ _ _ _ _ => pg_name (i := 16) sc_law.nd rfl (.inl rfl)) (fun _ _ _ _ _ => pts_nil) (fun _ _ _ _ _ => pe_callTy call_listTT rfl T.list bt_list (pa_cons (pv 16) pa_nil))) pa_nil)) (pa_cons (pv 9) pa_nil)))))
        (pw_or1 (pt_not (pt_val (pe_call FX hr5 rfl mx kx bx .nil pass0 (pa_cons (pe_call F5 hr1 rfl m5 k5 b5 .nil pass0 (pa_cons (pe_callTy call_tuple_of rfl T.tuple bt_tuple (pa_cons (pv 8) pa_nil)) pa_nil)) (pa_cons (pv 9) pa_nil)))))))) (pss_one (ps_ret pe_bl)) pss_nil)
    (pss_cons (ps_if (pt_not (pt_val (pe_call FX hr5 rfl mx kx bx .nil pass0 (pa_cons (pe_call F2 hr5 rfl m2 k2 b2 .nil pass0 (pa_cons (pv 5) (pa_cons (pv 9) pa_nil))) (pa_cons (pe_call F4 hr1 rfl m4 k4 b4 .nil pass0 (pa_cons (pv 3) (pa_cons (pv 9) pa_nil))) pa_nil))))) (pss_one (ps_ret pe_bl)) pss_nil)
    pe')), ?_⟩
  intro D H a0 a7 hd l bk qb qt R s c aw kw ae hD LS dR hst hlen hok
  have c1 := LS.ok.c1
  have c4 := LS.ok.c4
  have hzl : (histT (ents ae)).length ≤ 4000 := histT_len (by rw [ents_len]; exact hlen)
  have hfig : ∀ e ∈ ents ae, e.fig := fun e h => (hok e h).fig c4
  -- the line
  refine ⟨⟨_, rfl⟩, _, rfl, R, rfl, ⟨_, .of dR⟩, fun D1 hD1 => lc_list (K := K) (a := R) (xs := adrE ae) (fun i H2 => Same H H2 ∧ H2 D1 = some (.lst ((((ents ae).take i).map Ent.txt).map V.str))) ⟨Same.upd hD1, upd_same⟩ (fun i H2 _ h2 => .of (h2.1 _ _ dR)) ?_ ?_⟩
  · rintro i x H2 hi ⟨e2, d2⟩
    obtain ⟨p, hp, rfl⟩ := adrE_at hi
    obtain ⟨g1, g2, g3⟩ := hfig p.2 (List.mem_map.mpr ⟨p, List.mem_of_getElem? hp, rfl⟩)
    have tp := ((hst p (List.mem_of_getElem? hp)).same e2).t (K := K)
    refine ⟨rfl, ?_⟩
    dsimp only [tYes]
    refine iteT ⟨_, rfl, p.1, _, 0, .int p.2.ha, rfl, rfl, tp, rfl, js_fig (a := []) g1 (Nat.le_of_ble_eq_true rfl) (js_str t_colon (Nat.le_of_ble_eq_true rfl) ⟨_, rfl, p.1, _, 1, .int p.2.ca, rfl, rfl, tp, rfl, js_fig g2 (Nat.le_of_ble_eq_true rfl) (js_str t_gt (Nat.le_of_ble_eq_true rfl)
      ⟨_, rfl, p.1, _, 2, .int p.2.an, rfl, rfl, tp, rfl, js_fig g3 (Nat.le_of_ble_eq_true rfl) ?_⟩)⟩)⟩
    refine ⟨_, d2, ?_, e2.set hD1, ?_⟩
    · have := lt_of_get hp
      rw [List.length_map, List.length_map, List.length_take]
      exact small1000 (by omega)
    · rw [upd_same, take_more (show (ents ae)[i]? = some p.2 by rw [List.getElem?_map, hp]; rfl), List.map_append, List.map_append]
      rfl
  rintro H2 ⟨e2, d2⟩
  rw [adrE_len, ← ents_len ae, List.take_length] at d2
  refine ⟨_, D1, (ents ae).map Ent.txt, rfl, rfl, .inl (.of d2), ?_, ?_⟩
  · rw [t_blank]
    exact join_fit 32 (by rw [hist_wt, ents_len]; omega)
  rw [t_blank]
  have L2 := LS.same e2
  have dR2 := e2 _ _ dR
  have hst2 := hst.same e2
  -- history_text of a list of lists
  refine ⟨_, rfl, R, rfl, ⟨_, .of dR2⟩, fun D2 hD2 => lc_list (K := K) (a := R) (xs := adrE ae) (fun i H3 => Same H2 H3 ∧ ∃ be : List AE, H3 D2 = some (.lst (adrE be)) ∧ StandL H3 be ∧ ents be = (ents ae).take i) ⟨Same.upd hD2, [], upd_same, fun p hp => (by cases hp), rfl⟩ (fun i H3 _ h3 => .of (h3.1 _ _ dR2)) ?_ ?_⟩
  · rintro i x H3 hi ⟨e3, be, d3, sl, eb⟩
    obtain ⟨p, hp, rfl⟩ := adrE_at hi
    have tp := ((hst2 p (List.mem_of_getElem? hp)).same e3).t (K := K)
    refine ⟨rfl, ?_⟩
    dsimp only [tYes]
    refine iteT ⟨_, rfl, p.1, _, rfl, tp, fun u hu => ?_⟩
    have e4 := Same.upd (o := .lst (p.2.row.map V.int)) hu
    have d4 := e4 _ _ d3
    have nu : u ≠ D2 := fun z => by rw [z] at hu; rw [hu] at d3; cases d3
    have lb : be.length ≤ 401 := by
      have := congrArg List.length eb
      rw [ents_len, List.length_take] at this
      have := lt_of_get hp
      rw [ents_len] at *
      omega
    refine ⟨_, d4, by rw [adrE_len]; exact small1000 (by omega), (e3.new hu).set hD2, be ++ [(u, p.2)], by rw [upd_same, adrE_snoc], fun a ha => ?_, ?_⟩
    · rcases List.mem_append.mp ha with ha | ha
      · have t1 := sl a ha
        rw [upd_ne (ne_of t1 d3 (fun z => ?_))]
        · exact e4 _ _ t1
        · injection z with z
          cases be with
          | nil => cases z
          | cons b0 br =>
            injection z with z _
            cases z
      · rw [List.mem_singleton] at ha
        subst ha
        rw [upd_ne nu]
        exact upd_same
    · rw [ents_snoc, eb, take_more (show (ents ae)[i]? = some p.2 by rw [List.getElem?_map, hp]; rfl)]
  rintro H3 ⟨e3, be, d3, sl, eb⟩
  rw [adrE_len, ← ents_len ae, List.take_length] at eb
  have lb : be.length ≤ 401 := by
    have := congrArg List.length eb
    rw [ents_len, ents_len] at this
    omega
  refine ⟨D2, be, rfl, lb, by rw [eb]; exact hfig, .inl ⟨d3, sl⟩, fun H4 e4 => ⟨_, rfl, .str (histT (ents be)), .str (histT (ents ae)), .str (histT (ents ae)), rfl, by rw [eb]; rfl, rfl, fun H5 e5 => ⟨true, rfl, iteF ?_⟩⟩⟩
  have e25 := (e3.trans e4).trans e5
  -- history_text of a tuple of tuples
  refine ⟨_, rfl, R, _, rfl, .inl ⟨.of (e25 _ _ dR2), fun u hu => ?_⟩⟩
  have e6 := Same.upd (o := .tup (adrE ae)) hu
  refine ⟨u, ae, rfl, hlen, hfig, .inr ⟨upd_same, (hst2.same e25).same e6⟩, fun H7 e7 => ⟨_, rfl, .str (histT (ents ae)), .str (histT (ents ae)), .str (histT (ents ae)), rfl, rfl, rfl, fun H8 e8 => ⟨true, rfl, iteF ?_⟩⟩⟩
  have L8 := (((L2.same e25).same e6).same e7).same e8
  -- what is read of the line
  refine ⟨_, rfl, _, rfl, bk, s, c, qb, aw, .str (histT (ents ae)), _, rfl, L8.bkA, c4, .inl ⟨histT (ents ae), rfl, by omega, rfl⟩, fun v1 H9 e9 w1 => ⟨_, rfl, _, rfl, c, histT (ents ae), rfl, c1, c4, by omega, fun v2 H10 e10 w2 => ⟨v1, v2, _, rfl, hold_more (w1.same e10), hold_more w2, fun H11 e11 => ⟨true, rfl, iteF ?_⟩⟩⟩⟩
  exact he D H11 a0 a7 (some (.ref R)) hd l bk qb qt s c aw kw (histT (ents ae)) hD (((L8.same e9).same e10).same e11) hzl
end
end K3
/-! law -/
namespace K3
open PySem PySem.Spec PyProof.Rows L2
def spLaw (K : PySem.W.Frag) : Sp := fun vs H Q _ => ∃ (a : Addr) (ns : List Int), vs = [.ref a] ∧ SqL K H a (ns.map V.int) ∧ ns.length ≤ 1000 ∧ ∀ H', Q (.bl true) H'
theorem big_ok {c k : Int} (c1 : 1 ≤ c) : Ent.ok c ⟨k % 10, k % c, k / 2 % 3⟩ :=
  ⟨⟨Int.emod_nonneg _ (by decide), by have := Int.emod_lt_of_pos k (show (0 : Int) < 10 by decide); show k % 10 ≤ 9; omega⟩, ⟨Int.emod_nonneg _ (by omega), Int.emod_lt_of_pos _ (by omega)⟩, Int.emod_nonneg _ (by decide), Int.emod_lt_of_pos _ (by decide)⟩
theorem cut_adrE (ae : List AE) : ∃ be : List AE, cutV (adrE ae) none (some 1) = adrE be ∧ be.length ≤ 1 ∧ ∀ p ∈ be, p ∈ ae := by
  refine ⟨ae.take (HT.sIx (adrE ae).length (adrE ae).length (some 1) - HT.sIx (adrE ae).length 0 none), ?_, ?_, fun p hp => List.mem_of_mem_take hp⟩
  · unfold cutV adrE refs
    rw [List.map_take, List.map_take]
    rfl
  · rw [List.length_take]
    have : HT.sIx (adrE ae).length (adrE ae).length (some ((1 : Nat) : Int)) = min 1 (adrE ae).length := HT.sIx_nat _ _ 1
    have e : HT.sIx (adrE ae).length (adrE ae).length (some 1) = min 1 (adrE ae).length := this
    rw [e]
    omega
section
variable {P : Program} {w : World} {K : PySem.W.Frag} {mg : Str → Option Value} {base : Heap}
theorem ok_law {Cb fB C fI fE f : Addr} {fdL : FuncData} (G : LawG P w K mg base Cb fB C fI fE) (FL : FunD K "law" "law" (defArgs (top 44)) (defBody (top 44)) (defScope (top 44)) [] [] f fdL) : FnOk P w K mg base CX0 8 f fdL ["_law_script"] (spLaw K) := by
  refine FL.ok sc_law (fun vs H Q E h => ?_) (fun cdv A outer s0 H vs Q E hr h => ?_)
  · obtain ⟨a, ns, rfl, _⟩ := h
    rfl
  · obtain ⟨a, ns, rfl, ha, hn, kQ⟩ := h
    suffices hh : ∃ t, PSs (cxOf CX0 P w K mg base NL "law" (defScope (top 44)) f cdv A outer s0 H E).nox (defBody (top 44)) t ∧ t { nx := fun _ H' => Q .non H', rt := Q } (start NL [.ref a]) H from let ⟨t, a, b⟩ := hh; ⟨t, a.nox, b⟩
    obtain ⟨tm, pm, hm⟩ := law_mid (HS := H) (E := E) (outer := outer) G hr
    have T := G.T
    have BC := G.BC
    obtain ⟨fdI, FI⟩ := BC.fnI
    obtain ⟨fdE, FE⟩ := BC.fnE
    obtain ⟨fd, fdd, FD, md, kd, bd⟩ := G.draw
    obtain ⟨f1, fd1, F1, m1, k1, b1⟩ := G.hand
    obtain ⟨f2, fd2, F2, m2, k2, b2⟩ := G.large
    obtain ⟨f3, fd3, F3, m3, k3, b3⟩ := G.told
    obtain ⟨f4, fd4, F4, m4, k4, b4⟩ := G.text
    obtain ⟨f5, fd5, F5, m5, k5, b5⟩ := G.read
    obtain ⟨f6, fd6, F6, m6, k6, b6⟩ := G.entries
    have hr6 : Room 6 _ := hr.mono (by decide)
    have hr5 : Room 5 _ := hr.mono (by decide)
    have hr4 : Room 4 _ := hr.mono (by decide)
    have hr3 : Room 3 _ := hr.mono (by decide)
    have hr2 : Room 2 _ := hr.mono (by decide)
    have hr1 : Room 1 _ := hr.mono (by decide)
    refine ⟨_, pss_cons (ps_set (i := 1) sc_law.nd rfl (.inl rfl) (pe_call F1 hr1 rfl m1 k1 b1 .nil pass0 (pa_cons (pv 0) pa_nil)))
      (pss_cons (ps_asg (pe_call F2 hr4 rfl m2 k2 b2 .nil pass0 (pa_cons (pv 1) pa_nil)) (pg_tup rfl (pgs_cons (pg_name (i := 2) sc_law.nd rfl (.inl rfl)) (pgs_cons (pg_name (i := 3) sc_law.nd rfl (.inr rfl)) (pgs_cons (pg_name (i := 4) sc_law.nd rfl (.inl rfl)) pgs_nil)))))
      (pss_cons (ps_set (i := 5) sc_law.nd rfl (.inl rfl) (pe_make BC.mkr (ok_bookI T BC FI G.whole G.check) hr5 rfl BC.gC (FI.bindsN fun _ _ _ _ _ _ us hl => match us, hl with | [_, _, _, _], _ => rfl) .nil pass0 (pa_cons (pv 2) (pa_cons (pv 3) (pa_cons (pe_callTy call_listTT rfl T.list bt_list (pa_cons (pv 4) pa_nil)) pa_nil)))))
      (pss_cons (ps_set (i := 6) sc_law.nd rfl (.inl rfl) (pe_call F3 hr1 rfl m3 k3 b3 .nil pass0 (pa_cons (pv 2) (pa_cons (pv 3) (pa_cons (pv 4) pa_nil)))))
      (pss_cons (ps_set (i := 7) sc_law.nd rfl (.inl rfl) (pe_call F4 hr1 rfl m4 k4 b4 .nil pass0 (pa_cons (pv 5) pa_nil)))
      (pss_cons (ps_if (PW.pt (pw_or (pt_not (pt_val (pe_isin T.isin (pv 7) (pe_ty T.str bt_str)))) (pw_or (pt_cmpR op_ne (pv 7) (pv 6) (nomark _))
          (pw_or1 (pt_not (pt_cmpR (op_eqG (rcG_ins (ok_bookE T BC FE) BC.eqA BC.eqF (FE.bindsN fun _ _ _ _ _ _ us hl => match us, hl with | [_, _], _ => rfl) (E := E0) pass0) hr1) (pe_call F5 hr6 rfl m5 k5 b5 .nil passL (pa_cons (pv 6) pa_nil)) (pv 5) (nomark _))))))) (pss_one (ps_ret pe_bl)) pss_nil)
      (pss_cons (ps_set (i := 8) sc_law.nd rfl (.inl rfl) (pe_call F6 hr3 rfl m6 k6 b6 .nil pass0 (pa_cons (pv 1) (pa_cons (pv 3) (pa_cons pe_int pa_nil)))))
      (pss_cons (ps_if (pt_cmpR op_eq (pe_call FD hr2 rfl md kd bd .nil pass0 (pa_cons (pv 1) (pa_cons pe_int pa_nil))) pe_int (nomark _))
        (pss_one (ps_set (i := 8) sc_law.nd rfl (.inl rfl) (pe_op op_cat (pe_lc (own := [("_law_k", 15)]) (g := gName 15) (tt := tYes) rfl sc_law.nd (pi_range1 rfl T.range (pa_cons (pe_op op_add pe_int (pe_call FD hr2 rfl md kd bd .nil pass0 (pa_cons (pv 1) (pa_cons pe_int pa_nil)))) pa_nil))
            (blkOk_by (own := [("_law_k", 15)]) (N := NL) (sc := defScope (top 44)) (by decide +kernel)) (fun _ _ _ _ _ => pg_name (i := 15) sc_law.nd rfl (.inl rfl)) (fun _ _ _ _ _ => pts_nil)
            (fun _ _ _ _ _ => pe_tup (pa_cons (pe_op op_mod (pv 15) pe_int) (pa_cons (pe_op op_mod (pe_callTy call_int1 rfl T.int bt_int (pa_cons (pv 15) pa_nil)) (pv 3)) (pa_cons (pe_op op_mod (pe_callTy call_int1 rfl T.int bt_int (pa_cons (pe_op op_fdiv (pv 15) pe_int) pa_nil)) pe_int) pa_nil)))))
          (pe_slice sl_list (pv 8) po_none (po_some pe_int))))) pss_nil)
      pm))))))), ?_⟩
    refine ⟨_, rfl, a, ns, rfl, ha, hn, fun hd l H1 e1 nh hA1 => ?_⟩
    refine ⟨_, rfl, hd, l, rfl, hA1, fun H2 p q s c kw kb2 hA2 dp dq st BO => ?_⟩
    refine ⟨p, _, rfl, .of dp, rfl, _, _, rfl, _, _, rfl, _, _, rfl, rfl, ?_⟩
    have c1 := BO.c1
    have c4 := BO.c4
    -- the book
    refine ⟨_, rfl, _, rfl, _, rfl, q, _, rfl, .of dq, fun A0 hA0 => ?_⟩
    refine fun x dx hx hdx ne => ?_
    have s3 : Same H2 (upd H2 A0 (.lst (adr kw))) := Same.upd hA0
    have s4 : Same (upd H2 A0 (.lst (adr kw))) (upd (upd (upd H2 A0 (.lst (adr kw))) dx (.own x)) x (.ins C dx [])) := fun b o e => by
      rw [upd_ne (ne_of_none e hx), upd_ne (ne_of_none e hdx)]
      exact e
    refine ⟨x, dx, s, c, A0, kw, rfl, upd_same, BO, s4 _ _ upd_same, (st.same s3).same s4, fun H5 qb aw sm BA ew => ⟨rfl, ?_⟩⟩
    have s5 : Same H2 H5 := fun b o e => sm b o (s4 _ _ (s3 _ _ e)) (ne_of_none (s3 _ _ e) hx)
    have L5 : LawSt C hd l x qb q s c aw kw H5 := ⟨hA2.same s5, BA, s5 _ _ dq, st.same s5, BO⟩
    -- its text, twice
    refine ⟨_, rfl, _, rfl, _, rfl, s, c, q, kw, rfl, L5.wq, L5.wst, BO, fun H6 e6 => ?_⟩
    have L6 := L5.same e6
    refine ⟨_, rfl, x, s, c, qb, aw, rfl, L6.bkA, (by rw [ew]; exact BO), fun H7 e7 => ?_⟩
    have L7 := L6.same e7
    rw [ew]
    have hzb : (bookT s c (wys kw)).length ≤ 4000 := bookT_len s c BO.len
    refine ⟨_, rfl, _, _, _, _, true, rfl, .ty "str", .base (.str _), kit_ty (by decide +kernel), true, rfl, iteF ?_⟩
    refine ⟨_, rfl, _, rfl, rfl, _, rfl, iteNS rfl ?_⟩
    refine ⟨_, rfl, .str (bookT s c (wys kw)), rfl, .inl ⟨_, rfl, by omega, fun k e => (by rw [book_back BO] at e; cases e), fun s' c' ws eb BO' H8 p' q' aw' e8 BA' ew' => ?_⟩⟩
    rw [book_back BO] at eb
    injection eb with eb
    injection eb with e1' eb
    injection eb with e2' e3'
    subst e1' e2' e3'
    have L8 := L7.same e8
    obtain ⟨dx1, h1⟩ := BA'.ob
    obtain ⟨dx2, h2⟩ := L8.bkA.ob
    refine ⟨_, rfl, ⟨p', x, dx1, dx2, _, _, rfl, rfl, h1, h2, ⟨s, c, q', qb, aw', aw, BA', L8.bkA, by rw [ew, ew']⟩⟩, fun H9 e9 => ⟨_, rfl, iteF ?_⟩⟩
    have L9 := L8.same (show Same H8 H9 from e9)
    -- the entries
    refine ⟨_, rfl, _, rfl, hd, l, c, rfl, L9.hA, c1, c4, fun H10 R ae EA hR => ?_⟩
    have L10 := L9.keep EA.kb EA.hA
    refine ⟨_, rfl, hd, l, 8, rfl, L10.hA, by decide, by decide, fun r H11 r0 r1 kb11 hA11 => ⟨rfl, _, rfl, ?_⟩⟩
    have L11 := L10.keep kb11 hA11
    have nR : R ≠ hd := L9.hA.new hR
    have dR11 := kb11 _ _ EA.d nR
    have st11 := EA.hA.standE kb11 EA.st
    refine ite2 (fun _ => ?_) (fun _ => ?_)
    · refine ⟨_, rfl, hd, l, 2, rfl, hA11, by decide, by decide, fun r2 H12 r20 r21 kb12 hA12 => ⟨_, _, rfl, rfl, _, rfl, by omega, by omega, fun D hD => lc_range (lo := 0) (n := (399 + r2).toNat)
        (fun i H13 => Same H12 H13 ∧ ∃ be : List AE, H13 D = some (.lst (adrE be)) ∧ StandE H13 be ∧ be.length = i ∧ ∀ e ∈ ents be, e.ok c) ⟨Same.upd hD, [], upd_same, fun p hp => (by cases hp), rfl, fun p hp => (by cases hp)⟩ ?_ ?_⟩⟩
      · rintro i H13 hi ⟨e13, be, d13, sb, lb, ob⟩
        refine ⟨rfl, ?_⟩
        dsimp only [tYes]
        refine iteT ⟨_, rfl, _, _, rfl, rfl, (show (0 : Int) < 10 by decide), _, rfl, .inl ⟨_, rfl, _, rfl, _, _, rfl, rfl, (show (0 : Int) < c by omega), _, rfl, _, _, rfl, rfl, ⟨by decide, by decide⟩, .inl ⟨_, rfl, _, _, rfl, rfl, (show (0 : Int) < 3 by decide), (by show 3 ≤ sizeLine; decide), fun t ht => ?_⟩⟩⟩
        have e14 := Same.upd (o := .tup [.int ((0 + (i : Int)) % 10), .int ((0 + (i : Int)) % c), .int ((0 + (i : Int)) / 2 % 3)]) ht
        have d14 := e14 _ _ d13
        refine ⟨_, d14, by rw [adrE_len]; exact small1000 (by omega), (e13.new ht).set hD, be ++ [(t, ⟨(0 + (i : Int)) % 10, (0 + (i : Int)) % c, (0 + (i : Int)) / 2 % 3⟩)], by rw [upd_same, adrE_snoc], fun b hb => ?_, by rw [List.length_append, lb]; rfl, fun e he => ?_⟩
        · have t1 := ((sb.same e14).snoc (p := (t, ⟨(0 + (i : Int)) % 10, (0 + (i : Int)) % c, (0 + (i : Int)) / 2 % 3⟩)) upd_same) b hb
          show upd _ D _ b.1 = _
          rw [upd_ne (ne_of t1 d14 (fun z => by cases z))]
          exact t1
        · rw [ents_snoc] at he
          rcases List.mem_append.mp he with he | he
          · exact ob e he
          · rw [List.mem_singleton] at he
            subst he
            exact big_ok c1
      · rintro H13 ⟨e13, be, d13, sb, lb, ob⟩
        have L12 := L11.keep kb12 hA12
        have dR12 := kb12 _ _ dR11 nR
        have st12 := hA11.standE kb12 st11
        have dR13 := e13 _ _ dR12
        obtain ⟨ce, ec, lc, mc⟩ := cut_adrE ae
        refine ⟨_, rfl, _, rfl, R, _, rfl, .of dR13, fun u hu => ?_⟩
        have e14 := Same.upd (o := .lst (cutV (adrE ae) none (some 1))) hu
        refine ⟨D, u, _, _, rfl, rfl, e14 _ _ d13, upd_same, ?_, fun v hv => ?_⟩
        · rw [ec, adrE_len, adrE_len]
          exact Nat.le_of_lt (small1000 (by omega))
        · have e15 := e14.new (o := .lst (adrE be ++ cutV (adrE ae) none (some 1))) hv
          refine hm _ _ _ _ hd l x qb q v s c aw kw (be ++ ce) (fun H' => kQ H') ((L12.same e13).same e15) ?_ ?_ ?_ ?_
          · rw [upd_same, ec]
            unfold adrE refs
            rw [List.map_append, List.map_append]
          · intro b hb
            rcases List.mem_append.mp hb with hb | hb
            · exact ((sb.same e15) b hb)
            · exact (((st12.same e13).same e15) b (mc b hb))
          · rw [List.length_append]
            omega
          · intro e he
            rw [ents, List.map_append] at he
            rcases List.mem_append.mp he with he | he
            · exact ob e he
            · obtain ⟨b, hb, rfl⟩ := List.mem_map.mp he
              exact EA.ok _ (List.mem_map.mpr ⟨b, mc b hb, rfl⟩)
    · exact hm _ _ _ _ hd l x qb q R s c aw kw ae (fun H' => kQ H') L11 dR11 st11 (Nat.le_trans EA.len (by decide)) EA.ok
end
end K3
/-! the head, the facts, the end -/
namespace K3
open PySem PySem.Spec PyProof.Rows L2
def dG (x : String) (i : Nat) : He.DefD := ⟨(x, none), x, x, defArgs (top i), defBody (top i), defScope (top i), [], []⟩
def dM (c x : String) (i j : Nat) : He.DefD := ⟨(c, some (Str.ofString x)), x, Str.ofString (c ++ "." ++ x), defArgs (inClass (top i) j), defBody (inClass (top i) j), defScope (inClass (top i) j), [], []⟩
def fnL : List He.DefD := [dG "is_whole" 10, dG "is_sequence" 11, dG "_is_way" 12, dG "_check_ways" 13, dG "book_text" 19, dG "small_number" 20, dG "_read_sizes" 21, dG "_read_way" 22, dG "read_book" 23, dG "history_text" 24,
  dG "_read_entry" 25, dG "read_history" 26, dG "_law_mix" 28, dG "_law_hand" 29, dG "_law_draw" 30, dG "_law_exact" 31, dG "_law_ways" 32, dG "_law_flat" 33, dG "_law_large_book" 34, dG "_law_entries" 35] ++
  [dG "_law_told_book" 36, dG "_law_sizes" 37, dG "_law_lines" 38, dG "_law_due_book" 39, dG "_law_read_book" 40, dG "_law_due_history" 41, dG "_law_read_history" 42, dG "_law_changed_text" 43, dG "law" 44,
  dM "BadText" "__init__" 4 0, dM "Book" "__init__" 14 0, dM "Book" "__eq__" 14 4]
def gloL : List Str := (["is_whole", "is_sequence", "_is_way", "_check_ways", "book_text", "small_number", "_read_sizes", "_read_way", "read_book", "history_text", "_read_entry", "read_history", "_law_mix", "_law_hand", "_law_draw", "_law_exact", "_law_ways", "_law_flat", "_law_large_book", "_law_entries"] : List Str) ++
  ([ "_law_told_book", "_law_sizes", "_law_lines", "_law_due_book", "_law_read_book", "_law_due_history", "_law_read_history", "_law_changed_text", "law", "BadText", "Book"] : List Str)
def freeL : List Str := ["isinstance", "int", "bool", "str", "list", "tuple", "len", "sorted", "range", "zip", "enumerate", "abs"]
def faL : List He.Fa := gloL.map (fun x => He.Fa.glo x) ++ freeL.map (fun x => He.Fa.free x) ++
  [.int "MOST_STATES" 6, .int "MOST_CALLS" 4, .int "MOST_ANSWERS" 3, .int "MOST_WAYS" 432, .int "MOST_HAND" 9, .int "MOST_ENTRIES" 400, .str "FIGURES" "0123456789",
   .cls "Book", .mkr "Book", .noat "Book" "states", .noat "Book" "calls", .noat "Book" "ways", .meth "Book" "__eq__"]
/-- what isinstance asks of Book -/
def insB (K : PySem.W.Frag) (C : Addr) : Bool := He.eqO (PySem.W.findIn K (.ref C) "__class__") (some (some (.builtin "object.__class__"))) &&
  (He.eqO (PySem.W.specialIn K (.builtin "object.__class__") "__get__") (some (some (.builtin "getset_descriptor.__get__"))) &&
  (decide (PySem.W.takesIn K (.builtin "object.__class__") = some true) && (decide (PySem.W.mroIn K C (.type "object") = some true) && decide (PySem.W.kitOne K (.ref C) (.ref C) = some true))))
/-- what the making of BadText asks -/
def oexL (K : PySem.W.Frag) (C : Addr) : Bool := match K.lookup C with
  | some ⟨.type t, _, .cls cd, sl⟩ => decide (t = "type") && (match cd.mro, sl.toList with
    | .ref C' :: bm, [_, _, _, _, some (.builtin n), _] => decide (C' = C) && (decide (n = "ValueError.__new__") && (!cd.hasDel && (cd.hasDict && PySem.HandSPX.refsVE bm)))
    | _, _ => false)
  | _ => false
def oexB (K : PySem.W.Frag) (C : Addr) : Bool := oexL K C && (He.eqO (PySem.W.findIn K (.ref C) "__setattr__") (some (some (.builtin "object.__setattr__"))) &&
  (decide (PySem.W.subIn K (.ref C) (.type "BaseException") = some true) && (decide (PySem.W.typeIn K (.ref C) = some (.type "type")) && (PySem.W.keepIn K (.ref C) &&
  (He.eqO (PySem.W.findIn K (.ref C) "place") (some none) && (He.eqO (PySem.W.findIn K (.ref C) "__init__") (some (some (.ref (He.ma K C "__init__")))) &&
  (decide (PySem.W.typeIn K (.ref (He.ma K C "__init__")) = some (.type "function")) && (decide (PySem.W.exmOne K (.ref C) (.ref C) = some true) && xfB K C))))))))
def exK (K : PySem.W.Frag) : Bool := insB K (He.ga K "Book") && oexB K (He.ga K "BadText")
abbrev R : PySem.W.OpenRow := PySem.W.OpenLaw.row PySem.Challenge.rw_unmetcells_k03_whole_texts_of_books_and
abbrev hk : PySem.W.Hook := He.hookX 5 faL fnL [] [] exK
def ob (s : PySem.W.SharedT) : He.AlX := He.obsX 5 faL fnL [] [] exK (HandSHeadRun.getT s)
theorem ob_eq (s : PySem.W.SharedT) : ob s = hk.obs s.abs := He.obsX_eq (HandSHeadRun.getT_eq s)
def looseL : List PySem.Str := (["_wall", "CallError", "BadBook", "BadText", "MOST_STATES", "MOST_CALLS", "MOST_ANSWERS", "MOST_WAYS", "is_whole", "is_sequence", "_is_way", "_check_ways", "Book", "MOST_HAND", "MOST_ENTRIES", "FIGURES", "book_text", "small_number", "_read_sizes", "_read_way"] : List Str) ++
  (["read_book", "history_text", "_read_entry", "read_history", "_law_mix", "_law_hand", "_law_draw", "_law_exact", "_law_ways", "_law_flat", "_law_large_book", "_law_entries", "_law_told_book", "_law_sizes", "_law_lines", "_law_due_book", "_law_read_book", "_law_due_history", "_law_read_history", "_law_changed_text"] : List Str)
theorem run (w : World) : HandSHeadRun.RunEq R (PySem.W.view R.prog [44]) hk ob 4000 looseL w := by
  intro os
  kernel_rfl

theorem oexL_ok {K : PySem.W.Frag} {C : Addr} (h : oexL K C = true) : ∃ nm q N bs bm sn sub ab col dd k0 k1 k2 k3 k5, K.lookup C = some (excClassObj nm q C N bs bm true sn sub ab col dd k0 k1 k2 k3 k5 "ValueError.__new__") ∧ PySem.HandSPX.refsVE bm = true := by
  unfold oexL at h
  split at h
  · rename_i t dd cd sl ho
    obtain ⟨ht, h⟩ := He.ba h
    split at h
    · rename_i C' bm k0 k1 k2 k3 n k5 hm hs
      obtain ⟨h1, h⟩ := He.ba h
      obtain ⟨h2, h⟩ := He.ba h
      obtain ⟨h3, h⟩ := He.ba h
      obtain ⟨h4, h5⟩ := He.ba h
      have ht := of_decide_eq_true ht
      have h1 := of_decide_eq_true h1
      have h2 := of_decide_eq_true h2
      rw [Bool.not_eq_true'] at h3
      subst ht h1 h2
      obtain ⟨nm, bs, mro, ns, qn, hd, sn, sub, ab, col, del⟩ := cd
      dsimp only at hm h3 h4
      subst hm h3 h4
      have hsl : sl = #[k0, k1, k2, k3, some (.builtin "ValueError.__new__"), k5] := by
        obtain ⟨l⟩ := sl
        simp only at hs
        rw [hs]
      subst hsl
      exact ⟨nm, qn, ns, bs, bm, sn, sub, ab, col, dd, k0, k1, k2, k3, k5, ho, h5⟩
    · cases h
  · cases h
theorem q_bad : Str.ofString ("BadText" ++ "." ++ "__init__") = Str.ofString "BadText.__init__" := by decide +kernel
theorem q_bookI : Str.ofString ("Book" ++ "." ++ "__init__") = Str.ofString "Book.__init__" := by decide +kernel
theorem q_bookE : Str.ofString ("Book" ++ "." ++ "__eq__") = Str.ofString "Book.__eq__" := by decide +kernel
section
variable {P : Program} {w : World} {K : PySem.W.Frag} {h : Heap} {mg : Str → Option Value}
theorem def_at (X : K.In h) (G : h.Ns mainGlobals mg) {x : String} {i : Nat} (F : ∃ fd, FunD K (dG x i).name (dG x i).qual (dG x i).params (dG x i).body (dG x i).scope ((dG x i).dvs K) ((dG x i).kws K) (He.fAd K (dG x i).at_) fd) (g : (He.Fa.glo x).ok K = true) : DefAt K mg x (top i) := by
  obtain ⟨fd, F⟩ := F
  exact ⟨He.ga K x, fd, F, He.glo_ok X G g⟩
theorem facts (X : K.In h) (G : h.Ns mainGlobals mg) (c : He.SaysX faL fnL [] [] exK w h K) : ∃ f fd, mg "law" = some (.ref f) ∧ (∀ (s : Shared) (v : Value), BindsTo s fd ⟨[v], []⟩ [("_law_script", v)]) ∧ ∀ base : Heap, FnOk P w K mg base CX0 8 f fd ["_law_script"] (spLaw K) := by
  have cd := c.t.d
  obtain ⟨x1, x2⟩ := He.ba c.more
  unfold insB at x1
  unfold oexB at x2
  obtain ⟨i1, x1⟩ := He.ba x1
  obtain ⟨i2, x1⟩ := He.ba x1
  obtain ⟨i3, x1⟩ := He.ba x1
  obtain ⟨i4, i5⟩ := He.ba x1
  obtain ⟨o1, x2⟩ := He.ba x2
  obtain ⟨o2, x2⟩ := He.ba x2
  obtain ⟨o3, x2⟩ := He.ba x2
  obtain ⟨o4, x2⟩ := He.ba x2
  obtain ⟨o5, x2⟩ := He.ba x2
  obtain ⟨o6, x2⟩ := He.ba x2
  obtain ⟨o7, x2⟩ := He.ba x2
  obtain ⟨o8, x2⟩ := He.ba x2
  obtain ⟨o9, o10⟩ := He.ba x2
  have D0 := def_at X G (cd.def_ 0 rfl) (cd.fact 0 rfl)
  have D1 := def_at X G (cd.def_ 1 rfl) (cd.fact 1 rfl)
  have D2 := def_at X G (cd.def_ 2 rfl) (cd.fact 2 rfl)
  have D3 := def_at X G (cd.def_ 3 rfl) (cd.fact 3 rfl)
  have D4 := def_at X G (cd.def_ 4 rfl) (cd.fact 4 rfl)
  have D5 := def_at X G (cd.def_ 5 rfl) (cd.fact 5 rfl)
  have D6 := def_at X G (cd.def_ 6 rfl) (cd.fact 6 rfl)
  have D7 := def_at X G (cd.def_ 7 rfl) (cd.fact 7 rfl)
  have D8 := def_at X G (cd.def_ 8 rfl) (cd.fact 8 rfl)
  have D9 := def_at X G (cd.def_ 9 rfl) (cd.fact 9 rfl)
  have D10 := def_at X G (cd.def_ 10 rfl) (cd.fact 10 rfl)
  have D11 := def_at X G (cd.def_ 11 rfl) (cd.fact 11 rfl)
  have D12 := def_at X G (cd.def_ 12 rfl) (cd.fact 12 rfl)
  have D13 := def_at X G (cd.def_ 13 rfl) (cd.fact 13 rfl)
  have D14 := def_at X G (cd.def_ 14 rfl) (cd.fact 14 rfl)
  have D15 := def_at X G (cd.def_ 15 rfl) (cd.fact 15 rfl)
  have D16 := def_at X G (cd.def_ 16 rfl) (cd.fact 16 rfl)
  have D17 := def_at X G (cd.def_ 17 rfl) (cd.fact 17 rfl)
  have D18 := def_at X G (cd.def_ 18 rfl) (cd.fact 18 rfl)
  have D19 := def_at X G (cd.def_ 19 rfl) (cd.fact 19 rfl)
  have D20 := def_at X G (cd.def_ 20 rfl) (cd.fact 20 rfl)
  have D21 := def_at X G (cd.def_ 21 rfl) (cd.fact 21 rfl)
  have D22 := def_at X G (cd.def_ 22 rfl) (cd.fact 22 rfl)
  have D23 := def_at X G (cd.def_ 23 rfl) (cd.fact 23 rfl)
  have D24 := def_at X G (cd.def_ 24 rfl) (cd.fact 24 rfl)
  have D25 := def_at X G (cd.def_ 25 rfl) (cd.fact 25 rfl)
  have D26 := def_at X G (cd.def_ 26 rfl) (cd.fact 26 rfl)
  have D27 := def_at X G (cd.def_ 27 rfl) (cd.fact 27 rfl)
  have D28 := def_at X G (cd.def_ 28 rfl) (cd.fact 28 rfl)
  have T : Txt K mg := ⟨He.free_ok X G (cd.fact 31 rfl), He.free_ok X G (cd.fact 32 rfl), He.free_ok X G (cd.fact 33 rfl), He.free_ok X G (cd.fact 34 rfl), He.free_ok X G (cd.fact 35 rfl), He.free_ok X G (cd.fact 36 rfl), He.free_ok X G (cd.fact 37 rfl), He.free_ok X G (cd.fact 38 rfl), He.free_ok X G (cd.fact 39 rfl), He.free_ok X G (cd.fact 40 rfl), He.free_ok X G (cd.fact 41 rfl), He.free_ok X G (cd.fact 42 rfl), He.int_ok X G (cd.fact 43 rfl), He.int_ok X G (cd.fact 44 rfl), He.int_ok X G (cd.fact 45 rfl), He.int_ok X G (cd.fact 46 rfl), He.int_ok X G (cd.fact 47 rfl), He.int_ok X G (cd.fact 48 rfl), He.str_ok X G (cd.fact 49 rfl)⟩
  have B : Bad K mg (He.ga K "BadText") (He.ma K (He.ga K "BadText") "__init__") := by
    obtain ⟨fd, F⟩ := cd.def_ 29 (d := dM "BadText" "__init__" 4 0) rfl
    refine { gC := He.glo_ok X G (cd.fact 29 rfl), ox := ⟨oexL_ok o1, He.eqO_ok o2, of_decide_eq_true o3, of_decide_eq_true o4, o5⟩, iC := He.eqO_ok o7, tI := of_decide_eq_true o8, noP := He.eqO_ok o6, te := of_decide_eq_true o9, xf := xfB_ok o10, fn := ⟨fd, ?_⟩ }
    rw [show ("BadText.__init__" : Str) = Str.ofString ("BadText" ++ "." ++ "__init__") from q_bad.symm]
    exact F
  have cl : Cls K (He.ga K "Book") := He.cls_ok (cd.fact 50 rfl)
  have mt := He.meth_ok (cd.fact 55 (f := .meth "Book" "__eq__") rfl)
  have BC : BookC K mg (He.ga K "Book") (He.ma K (He.ga K "Book") "__init__") (He.ma K (He.ga K "Book") "__eq__") := by
    obtain ⟨fdI, FI⟩ := cd.def_ 30 (d := dM "Book" "__init__" 14 0) rfl
    obtain ⟨fdE, FE⟩ := cd.def_ 31 (d := dM "Book" "__eq__" 14 4) rfl
    refine { gC := He.glo_ok X G (cd.fact 30 rfl), cl := cl, nS := He.noat_ok (cd.fact 52 rfl), nC := He.noat_ok (cd.fact 53 rfl), nW := He.noat_ok (cd.fact 54 rfl), mkr := He.mkr_ok (cd.fact 51 rfl), ins := ⟨cl, He.eqO_ok i1, He.eqO_ok i2, of_decide_eq_true i3, of_decide_eq_true i4, of_decide_eq_true i5⟩, eqA := mt.at_, eqF := mt.fn, fnI := ⟨fdI, ?_⟩, fnE := ⟨fdE, ?_⟩ }
    · rw [show ("Book.__init__" : Str) = Str.ofString ("Book" ++ "." ++ "__init__") from q_bookI.symm]
      exact FI
    · rw [show ("Book.__eq__" : Str) = Str.ofString ("Book" ++ "." ++ "__eq__") from q_bookE.symm]
      exact FE
  obtain ⟨fd, F⟩ := cd.def_ 28 (d := dG "law" 44) rfl
  have gl : mg "law" = some (.ref (He.ga K "law")) := He.glo_ok X G (cd.fact 28 rfl)
  have bn := FunD.bindsA (ps := ["_law_script"]) F fun _ _ _ _ _ _ us hl => match us, hl with | [_], _ => rfl
  have law : ∀ base : Heap, FnOk P w K mg base CX0 8 (He.ga K "law") fd ["_law_script"] (spLaw K) := fun base => by
    have g0 : Got P w K mg base CX0 1 "is_whole" ["thing", "low", "high"] spWhole := got_whole T D0
    have g1 : Got P w K mg base CX0 1 "is_sequence" ["thing"] spSeq := got_seq T D1
    have g2 : Got P w K mg base CX0 2 "_is_way" ["thing", "states", "calls"] spIsWay := got_isway T D2 g0 g1
    have g3 : Got P w K mg base CX0 3 "_check_ways" ["states", "calls", "ways"] spCheck := got_check T D3 g1 g2
    have g4 : Got P w K mg base CX0 1 "book_text" ["book"] (spText (He.ga K "Book")) := got_text T BC D4
    have g5 : Got P w K mg base CX0 1 "small_number" ["word", "low", "high"] spSmall := got_small T D5
    have g6 : Got P w K mg base (L2.CX P w) 3 "_read_sizes" ["line"] (spSizes (He.ga K "BadText")) := got_sizes T B D6 g5
    have g7 : Got P w K mg base CX0 2 "_read_way" ["line", "states", "calls"] spWay := got_way T D7 g5
    have g8 : Got P w K mg base (L2.CX P w) 6 "read_book" ["text"] (spRead K (He.ga K "BadText") (He.ga K "Book")) := got_read T B BC D8 g0 g3 g6 g7
    have g9 : Got P w K mg base CX0 1 "history_text" ["history"] spHistT := got_histT T D9
    have g10 : Got P w K mg base CX0 2 "_read_entry" ["book", "word"] (spEntry (He.ga K "Book")) := got_entry T BC D10 g5
    have g11 : Got P w K mg base (L2.CX P w) 4 "read_history" ["book", "text"] (spRHist K (He.ga K "BadText") (He.ga K "Book")) := got_rhist T B BC D11 g10
    have g12 : Got P w K mg base CX0 1 "_law_mix" ["_law_number", "_law_turn"] spMix := got_mix T D12
    have g14 : Got P w K mg base CX0 2 "_law_draw" ["_law_hand_here", "_law_many"] spDraw := got_draw T D14 g12
    have g16 : Got P w K mg base CX0 1 "_law_ways" ["_law_rows"] spWays := got_ways T D16
    have g17 : Got P w K mg base CX0 3 "_law_flat" ["_law_hand_here", "_law_states", "_law_calls", "_law_answers"] spFlat := got_flat T D17 g14
    have g21 : Got P w K mg base CX0 1 "_law_sizes" ["_law_line"] spSz := got_sz T D21
    have g22 : Got P w K mg base CX0 1 "_law_lines" ["_law_states", "_law_calls"] spLines := got_lines T D22
    exact ok_law (fB := He.ma K (He.ga K "BadText") "__init__") (fI := He.ma K (He.ga K "Book") "__init__") (fE := He.ma K (He.ga K "Book") "__eq__") { T := T, B := B, BC := BC, whole := g0, check := g3, hand := got_hand T D13, draw := g14, large := got_large T D18 g14 g17 g16, told := got_told T D20, text := g4, read := g8, entries := got_entries T D19 g14, histT := g9, exact4 := got_exact T D15 4, rb := got_rb T B BC D24 g8, rh := got_rh T B D26 g11, due := got_due T D23 g21 g22, dh := got_dh T D25, changed := got_changed T D27 g14 } F
  exact ⟨He.ga K "law", fd, gl, fun s v => bn s [v] rfl, law⟩
end
end K3
open PySem PySem.W PySem.Calls PyProof.Rows
theorem PySem.Challenge.cw_unmetcells_k03_whole_texts_of_books_and_holds : PySem.Challenge.rw_unmetcells_k03_whole_texts_of_books_and.Holds := by
  w_on; o_law
  refine HandSHeadRun.head_any (r := OpenLaw.row PySem.Challenge.rw_unmetcells_k03_whole_texts_of_books_and) (q := view (OpenLaw.row PySem.Challenge.rw_unmetcells_k03_whole_texts_of_books_and).prog [44]) (H := K3.hk) (ob := K3.ob) (M := 4000) (loose := K3.looseL) (d := HandSHeadRun.topDef (OpenLaw.row PySem.Challenge.rw_unmetcells_k03_whole_texts_of_books_and).prog 44) (kwd := []) K3.ob_eq
    (by kernel_rfl) (fun s => by kernel_rfl) K3.run (by kernel_rfl) (by kernel_rfl) (by kernel_rfl) (by rfl) (by first | assumption | decide +kernel) (by decide +kernel) ⟨rfl, rfl, rfl, rfl, rfl, by decide +kernel⟩ ?hw ?hc
  case hw => w_witness2
  case hc =>
    refine L2.walk_ofE (l := PySem.Challenge.rw_unmetcells_k03_whole_texts_of_books_and) (n := 63) (k := 8) (x := "_law_script") (CX := L2.CX0) rfl (by decide) (by kernel_rfl) ⟨rfl, by decide, by decide⟩ ?F (fun _ _ _ _ z => z)
    intro w mg fa h Y G hmg0
    obtain ⟨K, KX, c⟩ := Y
    have hmg : mg ("law" : PySem.Str) = some (.ref fa) := by
      have e : (HandSHeadRun.topDef (OpenLaw.row PySem.Challenge.rw_unmetcells_k03_whole_texts_of_books_and).prog 44).name = ("law" : PySem.Str) := by kernel_rfl
      rw [← e]
      exact hmg0
    obtain ⟨f, fd, gl, hb, hF⟩ := K3.facts (P := (PySem.Challenge.rw_unmetcells_k03_whole_texts_of_books_and).prog) (w := w) KX G c
    have e := hmg.symm.trans gl
    cases e
    exact ⟨K, fd, K3.spLaw K, KX, hb, fun H a ns hl _ hS => ⟨a, ns, rfl, hS, Nat.le_trans hl (by decide), fun _ => rfl⟩, fun base _ _ => hF base⟩
